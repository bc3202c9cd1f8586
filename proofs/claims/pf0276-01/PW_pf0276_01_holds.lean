import PyProof.Rows.All
import Wide.All
import OpenK.AllK
import Wide.FinOn
import PySem.Challenge.RW_pf0276_01
set_option Elab.async false
section
open PySem PySem.W PyProof.Rows
namespace Mine
section
variable {tb : String → Option Builtin} {p : Program} {w : World} {n₀ : Nat} {ann : Option Value}
def topRunT (tb : String → Option Builtin) (p : Program) (w : World) (n₀ : Nat) (ann : Option Value) : Nat → SharedT → Thread → Option SharedT
  | 0, _, _ => none
  | n + 1, s, t => match through t with
    | true => some s
    | false => match stepOk n₀ ann t with
      | false => none
      | true => match stepT (denote tb) p w s t with
        | some (s', t') => topRunT tb p w n₀ ann n s' t'
        | none => none
theorem topRunT_of : ∀ {n : Nat} {s s' : SharedT} {t : Thread}, topRunT tb p w n₀ ann n s t = some s' → topRun tb p w n₀ ann n s.abs t = some s'.abs
  | 0, _, _, _, h => by cases h
  | n + 1, s, s', t, h => by
    unfold topRunT at h
    unfold topRun
    cases ht : through t with
    | true => rw [ht] at h; cases h; rfl
    | false =>
      rw [ht] at h
      cases hk : stepOk n₀ ann t with
      | false => rw [hk] at h; cases h
      | true =>
        rw [hk] at h
        cases hs : stepT (denote tb) p w s t with
        | none => rw [hs] at h; cases h
        | some x =>
          obtain ⟨s₂, t₂⟩ := x
          rw [hs] at h
          simp only [stepT_spec hs]
          exact topRunT_of h
end
def mkT (l : List Obj) : BT := (l.zipIdx).foldl (fun t p => t.ins p.2 p.1) .nil
noncomputable def bootT (P : Params) : BT := mkT (boot_heap P).objs.toList
noncomputable def S0 (w : World) (os : OsState) : SharedT := ⟨bootT w.params, 11, (boot_heap w.params).life, Array.mk [], boot_drawn, boot_toks, os⟩
theorem boot_abs (P : Params) : absHeap (bootT P) 11 (boot_heap P).life = boot_heap P := by kernel_rfl!
set_option maxRecDepth 100000 in
theorem size0 : ∀ w : World, ((boot_heap w.params).isNs mainGlobals && (Array.mk [] : Array GenState).size == 0, (boot_heap w.params).objs.size, (boot_heap w.params).nsMap mainGlobals "__annotations__") = (true, 11, some (.ref 6)) := by
  intro w; kernel_rfl!

section
variable {p q : Program} {loose : List Str} {Xt : Shared → Bool} {α : Type} {Yf : Shared → α} {Ya : World → α} {N : Nat} {g0 : Bool}
theorem left_of (M : Nat) (open_ : ∀ w : World, (fencedOpening treeTable p w N).map (fun s => (s.heap, s.gens, s.drawn, s.toks)) = some (boot_heap w.params, Array.mk [], boot_drawn, boot_toks))
    (main1 : ∀ (w : World) (os : OsState), (topRunT treeTable p w 11 (some (.ref 6)) M (S0 w os) (topStub p)).map (fun sT =>
      ((staticsOk (importedModules p.main.body) (boot_heap w.params) sT.abs.heap && namesBound p sT.abs.heap && gensDone sT.abs && laidKept (boot_heap w.params) sT.abs.heap), openSeen q loose (importedModules p.main.body) Xt g0 sT.abs)) = some (true, openGood q loose))
    (main2 : ∀ (w : World) (os : OsState), (topRunT treeTable p w 11 (some (.ref 6)) M (S0 w os) (topStub p)).map (fun sT => Yf sT.abs) = some (Ya w)) (le : Nat.ble M N = true) : LeftO p q loose Xt Yf Ya N g0 := fun w => by
  obtain ⟨⟨h, gs, d, k, os⟩, e, e'⟩ := Option.map_eq_some_iff.mp (open_ w)
  obtain ⟨rfl, rfl, rfl, rfl⟩ : h = boot_heap w.params ∧ gs = Array.mk [] ∧ d = boot_drawn ∧ k = boot_toks := by simpa using e'
  have z1 : ((boot_heap w.params).isNs mainGlobals && (Array.mk [] : Array GenState).size == 0) = true := congrArg (fun x => x.1) (size0 w)
  have z2 : (boot_heap w.params).objs.size = 11 := congrArg (fun x => x.2.1) (size0 w)
  have z3 : (boot_heap w.params).nsMap mainGlobals "__annotations__" = some (.ref 6) := congrArg (fun x => x.2.2) (size0 w)
  obtain ⟨sT, r0, l⟩ := Option.map_eq_some_iff.mp (main1 w os)
  obtain ⟨s2, q2, l3⟩ := Option.map_eq_some_iff.mp (main2 w os)
  obtain rfl : sT = s2 := Option.some.inj (r0.symm.trans q2)
  have l1 := congrArg (fun x => x.1) l
  have l2 := congrArg (fun x => x.2) l
  dsimp only at l1 l2
  have r1 := topRun_mono (N - M) _ _ _ _ (topRunT_of r0)
  rw [show M + (N - M) = N by have := Nat.le_of_ble_eq_true le; omega] at r1
  have s0e : (S0 w os).abs = ⟨boot_heap w.params, Array.mk [], boot_drawn, boot_toks, os⟩ := by
    show Shared.mk (absHeap (bootT w.params) 11 (boot_heap w.params).life) _ _ _ _ = _
    rw [boot_abs]; rfl
  rw [s0e] at r1
  have t : topFrom treeTable p w N ⟨boot_heap w.params, Array.mk [], boot_drawn, boot_toks, os⟩ = some sT.abs := by
    unfold topFrom
    dsimp only
    rw [z1, z2, z3, r1]
    show (match staticsOk (importedModules p.main.body) (boot_heap w.params) sT.abs.heap && namesBound p sT.abs.heap && gensDone sT.abs && laidKept (boot_heap w.params) sT.abs.heap with | true => _ | false => _) = _
    rw [l1]
  unfold openEnds
  rw [e]
  show (topFrom treeTable p w N _).map _ = _
  rw [t]
  exact congrArg some (Prod.ext l2 l3)
end
end Mine
end
section
open PySem PySem.W PyProof.Rows
namespace Mine
def q : Program := PySem.W.view PySem.Challenge.pw_pf0276_01 [0, 2, 4, 5, 6, 7, 8, 9, 10, 11, 13, 14, 15, 17, 19, 20, 21, 22, 23, 24, 26, 27, 28, 30, 31, 32, 33, 34, 36, 37, 38]
set_option maxRecDepth 100000 in
theorem said : PySem.Challenge.rw_pf0276_01.wellSaid = true := by decide +kernel
set_option maxRecDepth 100000 in
theorem main1 : ∀ (w : World) (os : OsState), (topRunT treeTable (PySem.Challenge.rw_pf0276_01.row.prog) w 11 (some (.ref 6)) 5896 (S0 w os) (topStub (PySem.Challenge.rw_pf0276_01.row.prog))).map (fun sT =>
      ((staticsOk (importedModules (PySem.Challenge.rw_pf0276_01.row.prog).main.body) (boot_heap w.params) sT.abs.heap && namesBound (PySem.Challenge.rw_pf0276_01.row.prog) sT.abs.heap && gensDone sT.abs && laidKept (boot_heap w.params) sT.abs.heap), openSeen Mine.q [] (importedModules (PySem.Challenge.rw_pf0276_01.row.prog).main.body) (fun s => xlAt Mine.q [] s && recOk (RowW.records PySem.Challenge.rw_pf0276_01.row.toRowW) s) true sT.abs)) = some (true, openGood Mine.q []) := by
  intro w os; kernel_rfl
local macro_rules | `(tactic| o_law) => `(tactic| refine holds_law Mine.said fun said => ?_)
open Lean in
local macro_rules | `(tactic| o_head $H) => do
  let hl := mkIdent `hl
  let hw := mkIdent `hw
  let hc := mkIdent `hc
  `(tactic| (
    refine PySem.W.holds_open (q := Mine.q) (loose := []) (Xt := fun s => xlAt Mine.q [] s && recOk (RowW.records PySem.Challenge.rw_pf0276_01.row.toRowW) s) (XP := XL Mine.q []) (Yf := Hook.obs $H) (Ya := Hook.val $H) (YP := Hook.says $H) (N := 5896) ?$hl (Hook.of $H) (Hook.keeps $H) (fun s e => xl_of s (Bool.and_eq_true_iff.mp e).1) XL.keeps (by rfl) (by rfl) (by rfl) (fun s e => recFacts_of (Bool.and_eq_true_iff.mp e).2) (by rfl) (by first | assumption | decide +kernel) (by decide +kernel) ⟨rfl, rfl, rfl, rfl, rfl, by decide +kernel⟩ ?$hw ?$hc
    (case $hl:ident => (refine left_of 5896 (boot_open (by kernel_rfl) (by kernel_rfl) (fun s => rfl)) Mine.main1 ?_ (by kernel_rfl); intro w os; kernel_rfl))))
set_option maxRecDepth 100000 in
set_option maxHeartbeats 8000000 in
open_top hd for PySem.Challenge.rw_pf0276_01
end Mine
end
section
open PySem PySem.W PyProof.Rows PySem.Calls
namespace Mine
abbrev Pg : Program := PySem.Challenge.rw_pf0276_01.row.toRowW.prog

/-! abstract dicts -/
structure AbsD (es : List DictEntry) (k : Nat) : Prop where
  len : es.length ≤ k
  plain : es.any (·.refKey) = false
theorem AbsD.nil : AbsD [] 0 := ⟨Nat.le_refl 0, rfl⟩
theorem AbsD.mono {es : List DictEntry} {k k' : Nat} (a : AbsD es k) (h : k ≤ k') : AbsD es k' := ⟨Nat.le_trans a.len h, a.plain⟩
theorem getL_some (es : List DictEntry) (name : Str) (h : es.any (·.refKey) = false) : (getL name es).isSome = true := by
  unfold getL
  split
  · rfl
  · rw [h]; rfl
theorem putL_len (name : Str) (hsh : Int) (key v : Value) : ∀ es : List DictEntry, (putL name hsh key v es).length ≤ es.length + 1
  | [] => Nat.le_refl _
  | e :: r => by
    unfold putL
    split
    · exact Nat.le_succ _
    · exact Nat.succ_le_succ (putL_len name hsh key v r)
theorem putL_plain (name : Str) (hsh : Int) (t : Tok) (v : Value) : ∀ es : List DictEntry, es.any (·.refKey) = false → (putL name hsh (.str name t) v es).any (·.refKey) = false
  | [], _ => rfl
  | e :: r, h => by
    rw [List.any_cons, Bool.or_eq_false_iff] at h
    unfold putL
    split
    · rw [List.any_cons, Bool.or_eq_false_iff]; exact ⟨h.1, h.2⟩
    · rw [List.any_cons, Bool.or_eq_false_iff]; exact ⟨h.1, putL_plain name hsh t v r h.2⟩
theorem AbsD.put {es : List DictEntry} {k : Nat} (a : AbsD es k) (name : Str) (hsh : Int) (t : Tok) (v : Value) : AbsD (putL name hsh (.str name t) v es) (k + 1) :=
  ⟨Nat.le_trans (putL_len _ _ _ _ _) (Nat.succ_le_succ a.len), putL_plain _ _ _ _ _ a.plain⟩

theorem getL_same (name : Str) (hsh : Int) (t : Tok) (v : Value) : ∀ es : List DictEntry, es.any (·.refKey) = false → getL name (putL name hsh (.str name t) v es) = some (some v)
  | [], _ => by
    have : (Value.str name t).isStr name = true := beq_self_eq_true name
    simp only [putL, getL, List.find?_cons, this]
  | e :: r, h => by
    rw [List.any_cons, Bool.or_eq_false_iff] at h
    unfold putL
    cases q : e.key.isStr name with
    | true => simp only [if_true, getL, List.find?_cons, q]
    | false =>
      have ih := getL_same name hsh t v r h.2
      simp only [Bool.false_eq_true, if_false]
      unfold getL at ih ⊢
      rw [List.find?_cons, q]
      rw [List.any_cons, h.1, Bool.false_or]
      exact ih
theorem find_other {name name' : Str} (hn : (name == name') = false) (hsh : Int) (t : Tok) (v : Value) : ∀ es : List DictEntry,
    (putL name hsh (.str name t) v es).find? (fun x => x.key.isStr name') = es.find? (fun x => x.key.isStr name')
  | [] => by
    have : (Value.str name t).isStr name' = false := hn
    simp only [putL, List.find?_cons, this, List.find?_nil]
  | e :: r => by
    have ih := find_other hn hsh t v r
    unfold putL
    cases q : e.key.isStr name with
    | true =>
      have q' : e.key.isStr name' = false := by
        cases hk : e.key with
        | str s u =>
          rw [hk] at q
          have e1 : s = name := eq_of_beq q
          show (s == name') = false
          rw [e1]; exact hn
        | _ => rfl
      simp only [if_true, List.find?_cons, q']
    | false =>
      simp only [Bool.false_eq_true, if_false, List.find?_cons]
      cases q' : e.key.isStr name' with
      | true => rfl
      | false => exact ih
theorem getL_plain {name : Str} {es : List DictEntry} (h : es.any (·.refKey) = false) : getL name es = some ((es.find? (fun x => x.key.isStr name)).map (·.val)) := by
  unfold getL
  cases q : es.find? (fun x => x.key.isStr name) with
  | some e => rfl
  | none => rw [h]; rfl
theorem getL_other {name name' : Str} {es : List DictEntry} {k : Nat} (a : AbsD es k) (hn : (name == name') = false) (hsh : Int) (t : Tok) (v : Value) :
    getL name' (putL name hsh (.str name t) v es) = getL name' es := by
  rw [getL_plain a.plain, getL_plain (putL_plain _ _ _ _ _ a.plain), find_other hn]
theorem getL_same' (name : Str) {es : List DictEntry} {k : Nat} (a : AbsD es k) (hsh : Int) (t : Tok) (v : Value) : getL name (putL name hsh (.str name t) v es) = some (some v) := getL_same name hsh t v es a.plain
theorem putL_len_old (name : Str) (hsh : Int) (key v : Value) : ∀ es : List DictEntry, (es.find? (fun x => x.key.isStr name)).isSome = true → (putL name hsh key v es).length = es.length
  | [], h => by simp at h
  | e :: r, h => by
    unfold putL
    cases q : e.key.isStr name with
    | true => simp
    | false =>
      rw [List.find?_cons, q] at h
      simp only [Bool.false_eq_true, if_false, List.length_cons]
      rw [putL_len_old name hsh key v r h]
theorem AbsD.put_old {es : List DictEntry} {k : Nat} (a : AbsD es k) {name : Str} {v₀ : Value} (g : getL name es = some (some v₀)) (hsh : Int) (t : Tok) (v : Value) : AbsD (putL name hsh (.str name t) v es) k := by
  refine ⟨?_, putL_plain _ _ _ _ _ a.plain⟩
  rw [putL_len_old]
  · exact a.len
  · rw [getL_plain a.plain] at g
    have := Option.some.inj g
    cases q : es.find? (fun x => x.key.isStr name) with
    | some e => rfl
    | none => rw [q] at this; cases this
theorem put_abs {name : Str} {hsh : Int} {t : Tok} {v : Value} {es : List DictEntry} {n k : Nat} (_ : AbsD es k) : (putL name hsh (.str name t) v es, putN name es n) = (putL name hsh (.str name t) v es, putN name es n) := rfl
theorem le_abs {es : List DictEntry} {k : Nat} (a : AbsD es k) (h : k ≤ 1000) : es.length ≤ 1000 := Nat.le_trans a.len h
end Mine
end
section
open PySem PySem.W PyProof.Rows PySem.Calls PySem.SeqAt
namespace Mine
inductive BAre : List Value → List (Array UInt8) → Prop
  | nil : BAre [] []
  | cons (b : Array UInt8) (t : Tok) {vs : List Value} {bs : List (Array UInt8)} : BAre vs bs → BAre (.bytes b t :: vs) (b :: bs)
theorem BAre.app {vs ws : List Value} {bs cs : List (Array UInt8)} (h : BAre vs bs) (k : BAre ws cs) : BAre (vs ++ ws) (bs ++ cs) := by
  induction h with
  | nil => exact k
  | cons b t _ ih => exact .cons b t ih
theorem BAre.len {vs : List Value} {bs : List (Array UInt8)} (h : BAre vs bs) : vs.length = bs.length := by
  induction h with
  | nil => rfl
  | cons b t _ ih => simp [ih]
theorem BAre.get {vs : List Value} {bs : List (Array UInt8)} (h : BAre vs bs) : ∀ (k : Nat) (hk : k < bs.length), ∃ t, vs[k]? = some (.bytes bs[k] t) := by
  induction h with
  | nil => intro k hk; exact absurd hk (Nat.not_lt_zero _)
  | cons b t _ ih =>
    intro k hk
    cases k with
    | zero => exact ⟨t, rfl⟩
    | succ k => simpa using ih k (by simpa using hk)
def isB (b : Array UInt8) : Value → Bool
  | .bytes c _ => c.toList == b.toList
  | _ => false
theorem BAre.any {vs : List Value} {bs : List (Array UInt8)} (h : BAre vs bs) (b : Array UInt8) : vs.any (isB b) = decide (b ∈ bs) := by
  induction h with
  | nil => simp
  | cons c t _ ih =>
    rw [List.any_cons, ih]
    have e : isB b (.bytes c t) = decide (b = c) := by
      show (c.toList == b.toList) = _
      by_cases q : b = c
      · subst q; simp
      · have : ¬ c.toList = b.toList := fun e => q (Array.toList_inj.mp e.symm)
        rw [decide_eq_false q]; exact beq_false_of_ne this
    rw [e]
    by_cases q : b = c <;> simp [q]
section
variable {prog : Program} {w : World} {A : Around} {E : Value → Shared → Prop} {s : Shared} {h₀ : Heap} {L l : Addr} {news : List (Addr × Obj)}
theorem eqAt_bytes (b c : Array UInt8) (t u : Tok) : EqAt A s (.bytes b t) (.bytes c u) (b.toList == c.toList) := fun prog w E Q hq => by
  unfold eqBool
  refine wpAny_holding ?_
  refine wpAny_ite_split (fun hab => ?_) (fun _ => ?_)
  · have e : Value.bytes b t = Value.bytes c u := eq_of_beq hab
    injection e with e1 e2
    subst e1
    rw [beq_self_eq_true] at hq
    exact wpAny_bind (wpAny_rule (wpAny_pure hq))
  · exact wpAny_bind (eq_bytes (wpAny_truthy_bool hq))
theorem in_bytes {vs : List Value} {n : Nat} {bs : List (Array UInt8)} {b : Array UInt8} {t : Tok} {Q : Value → Shared → Prop} (N : News h₀ L s.heap news) (hm : (l, listOf vs.toArray n) ∈ news) (hv : BAre vs bs)
    (h : Q (.bool (decide (b ∈ bs))) s) : wpAny (model prog w) A (compareOp .In (.bytes b t) (.ref l)) Q E s := by
  refine in_listAt (isB b) (items := vs.toArray) ⟨_, (N _ hm).1, rfl, n, rfl⟩ (fun y hy => ?_) ?_
  · have hy' : y ∈ vs := by simpa using hy
    have : ∃ c u, y = .bytes c u := by
      clear hy hm h
      induction hv with
      | nil => cases hy'
      | cons c u _ ih => rcases List.mem_cons.mp hy' with e | e; exact ⟨c, u, e⟩; exact ih e
    obtain ⟨c, u, rfl⟩ := this
    exact eqAt_bytes _ _ _ _
  · rw [List.any_toArray, hv.any]; exact h
theorem in_hit {vs : List Value} {n : Nat} {bs : List (Array UInt8)} {b : Array UInt8} {t : Tok} {Q : Value → Shared → Prop} (N : News h₀ L s.heap news) (hm : (l, listOf vs.toArray n) ∈ news) (hv : BAre vs bs) (hb : b ∈ bs)
    (h : Q (.bool true) s) : wpAny (model prog w) A (compareOp .In (.bytes b t) (.ref l)) Q E s := in_bytes N hm hv (by rw [decide_eq_true hb]; exact h)
theorem in_miss {vs : List Value} {n : Nat} {bs : List (Array UInt8)} {b : Array UInt8} {t : Tok} {Q : Value → Shared → Prop} (N : News h₀ L s.heap news) (hm : (l, listOf vs.toArray n) ∈ news) (hv : BAre vs bs) (hb : b ∉ bs)
    (h : Q (.bool false) s) : wpAny (model prog w) A (compareOp .In (.bytes b t) (.ref l)) Q E s := in_bytes N hm hv (by rw [decide_eq_false hb]; exact h)
end
section
variable {prog : Program} {w : World} {A : Around} {E : Value → Shared → Prop} {s : Shared} {h₀ : Heap} {L a : Addr} {m : Str → Option Value} {K : Frag}
theorem in_K_strs {items : Array Value} {n : Nat} {od : Option Addr} {sl : Array (Option Value)} {ys : List Str} {x : Str} {u : Tok} {b : Bool} {Q : Value → Shared → Prop} (F : Fr h₀ L s.heap m) (X₀ : K.In h₀)
    (hl : K.lookup a = some ⟨.type "tuple", od, .seq items n, sl⟩) (hi : StrsAre items.toList ys) (hb : ys.any (· == x) = b) (h : Q (.bool b) s) : wpAny (model prog w) A (compareOp .In (.str x u) (.ref a)) Q E s := by
  subst hb
  exact in_tuple_strs ⟨_, (X₀.keeps F.keep) _ _ hl, rfl, n, rfl⟩ hi h
end
end Mine
end
section
open PySem PySem.W PyProof.Rows PySem.Calls
namespace Mine
/-- what a body ends in: the frame, a ledger, and what is said of the value and the ledger -/
def End1 (s : Shared) (g : Heap) (L' : Addr) (Post : Addr → Value → List (Addr × Obj) → Prop) (fl : Flow) (s' : Shared) : Prop :=
  ∃ h' tk' m' news', s' = { s with heap := h', toks := tk' } ∧ Fr g L' h' m' ∧ News g L' h' news' ∧ Post L' (match fl with | .ret v => v | _ => .none) news'
theorem End1.intro {s : Shared} {g : Heap} {L' : Addr} {Post : Addr → Value → List (Addr × Obj) → Prop} {fl : Flow} {h' : Heap} {tk' : Nat} {m' : Str → Option Value} {all : List (Addr × Obj)} (news' : List (Addr × Obj))
    (F : Fr g L' h' m') (N : News g L' h' all) (sub : SubL news' all) (p : Post L' (match fl with | .ret v => v | _ => .none) news') : End1 s g L' Post fl { s with heap := h', toks := tk' } :=
  ⟨h', tk', m', news', rfl, F, fun q hq => N q (sub.mem q hq), p⟩
section
variable {prog : Program} {w : World} {A A₀ : Around} {E Q : Value → Shared → Prop} {s : Shared} {K : Frag} {L : Addr} {h₀ base : Heap} {m mg mb : Str → Option Value} {p : Program} {loose : List Str} {mean : ExcName → Option Value}
theorem enter_frame {env : Env} {outer : List Env} {name qual : Str} {params : Arguments} {body : List Stmt} {scope : Scope} {dV kV doc pm cdv ct oc : Value} {an od : Option Addr} {osl : Array (Option Value)} {f : Addr} {args : List Value} {news₁ rest : List (Addr × Obj)}
    (binds : List (Str × Value)) (Post : Addr → Value → List (Addr × Obj) → Prop)
    (B : Below A₀ base outer h₀) (F : Fr h₀ L s.heap m) (X₀ : K.In h₀) (T : Top p loose mean mg mb h₀) (N₁ : News h₀ L s.heap news₁) (N₂ : News h₀ L s.heap rest) (apart : ∀ q ∈ rest, q.1 ∉ news₁.map (·.1))
    (hA : A.frames = some (env :: outer)) (hf : env.frame = some L) (hke : env.scope.kind = .function)
    (ho : K.lookup f = some ⟨oc, od, .func (fnOf name qual params body scope dV kV doc pm an cdv ct), osl⟩) (hcd : codeIn K cdv qual = true) (hroom : A.depth < recursionLimit)
    (hbind : BindsTo s (fnOf name qual params body scope dV kV doc pm an cdv ct) ⟨args, []⟩ binds) (hloc : ∀ y ∈ binds, scope.names.lookup y.1 = some .local)
    (h : ∀ g L' h₁, Fr g L' h₁ (fun y => binds.reverse.lookup y) → News g L' h₁ news₁ → Below A base (env :: outer) g → K.In g → Top p loose mean mg mb g → (∀ q ∈ news₁, q.1 < L') →
      wpAny (model prog w) (A.deeper (envOf qual scope L' f cdv)) (execs body (envOf qual scope L' f cdv)) (End1 s g L' Post) (fun _ _ => False) { s with heap := h₁, toks := s.toks + binds.length })
    (hco : scope.isCoroutine = false) (hgen : scope.isGenerator = false) (hk : scope.kind = .function) (hcell : ∀ x ∈ scope.names, x.2 ≠ .cell)
    (ret : ∀ L' v news' h' tk', (∀ q ∈ news₁, q.1 < L') → (∀ q ∈ rest, q.1 < L') → (∀ x ∈ news', ∀ q ∈ rest, x.1 ≠ q.1) → Post L' v news' → Fr h₀ L h' m → News h₀ L h' news' → News h₀ L h' rest → Q v { s with heap := h', toks := tk' }) :
    wpAny (model prog w) A (call (.ref f) args) Q E s := by
  refine wpAny_call ?_
  obtain ⟨FG, BG, st, lv⟩ := groundX (R := fun r s' => match r with | .ok (.ret v) => Q v s' | .ok _ => False | .error e => E e s') B F N₁ hA hf hke
  refine codeAny_call_def (fd := fnOf name qual params body scope dV kV doc pm an cdv ct) (body := body) (binds := binds) hroom ((X₀.keeps F.keep) _ _ ho) rfl (T.nolimit.keeps F.keep) (codeRec_of (X₀.keeps F.keep) hcd) rfl hbind hcell hloc (fun h₁ hns hk₁ => ?_) hco hgen hk
  refine wpAny_mono (h (hideAll s.heap (news₁.map (·.1))) s.heap.objs.size h₁ ⟨hns, fun b o e => hk₁ b o (of_hideAll _ e), Nat.le_of_eq (hideAll_size _ _)⟩
    (fun q hq => ⟨hk₁ _ _ (N₁ q hq).1, Nat.ne_of_lt (Heap.lt_size (N₁ q hq).1), hideAll_none _ (List.mem_map_of_mem hq)⟩) BG (X₀.keeps fun b o e => st b o e) (T.keeps fun b o e => st b o e) (fun q hq => Heap.lt_size (N₁ q hq).1)) (fun fl s' hl => ?_) fun _ _ y => y.elim
  obtain ⟨h', tk', m', news', rfl, F', N', hp⟩ := hl
  refine lv _ _ ⟨s.heap.objs.size, m', news', F', N', fun kF kN => ?_⟩
  refine ret s.heap.objs.size _ news' h' tk' (fun q hq => Heap.lt_size (N₁ q hq).1) (fun q hq => Heap.lt_size (N₂ q hq).1) (fun x hx q hq e => ?_) hp kF kN fun q hq => ⟨?_, (N₂ q hq).2⟩
  · have z := (N' x hx).2.2
    rw [e, hideAll_get _ (N₂ q hq).1 (apart q hq)] at z; cases z
  · exact F'.keep _ _ (hideAll_get _ (N₂ q hq).1 (apart q hq))
theorem enter_frameC {env : Env} {outer : List Env} {name qual : Str} {params : Arguments} {body : List Stmt} {scope : Scope} {dV kV doc pm cdv ct oc : Value} {an od : Option Addr} {osl : Array (Option Value)} {f : Addr} {args : List Value} {news₁ rest : List (Addr × Obj)}
    (binds : List (Str × Value)) (Post : Addr → Value → List (Addr × Obj) → Prop)
    (B : Below A₀ base outer h₀) (F : Fr h₀ L s.heap m) (X₀ : K.In h₀) (T : Top p loose mean mg mb h₀) (N₁ : News h₀ L s.heap news₁) (N₂ : News h₀ L s.heap rest) (apart : ∀ q ∈ rest, q.1 ∉ news₁.map (·.1))
    (hA : A.frames = some (env :: outer)) (hf : env.frame = some L) (hke : env.scope.kind = .function)
    (ho : K.lookup f = some ⟨oc, od, .func (fnOf name qual params body scope dV kV doc pm an cdv ct), osl⟩) (hcd : codeIn K cdv qual = true) (hroom : A.depth < recursionLimit)
    (hbind : BindsTo s (fnOf name qual params body scope dV kV doc pm an cdv ct) ⟨args, []⟩ binds) (hkind : (binds.all fun y => scope.names.lookup y.1 == some .local || scope.names.lookup y.1 == some .cell) = true)
    (hnd : ((cellsFrom 0 scope.names []).map (·.1)).Nodup)
    (h : ∀ g L' h₁ tk cells, Fr g L' h₁ (bindL (envOfC qual scope L' f cdv).kindOf binds fun _ => none) → News g L' h₁ (cells ++ news₁) →
      CellsAre (bindC (envOfC qual scope L' f cdv).kindOf binds fun _ => none) (cellsFrom (L' + 1) scope.names []) cells → Below A base (env :: outer) g → K.In g → Top p loose mean mg mb g → (∀ q ∈ news₁, q.1 < L') →
      wpAny (model prog w) (A.deeper (envOfC qual scope L' f cdv)) (execs body (envOfC qual scope L' f cdv)) (End1 s g L' Post) (fun _ _ => False) { s with heap := h₁, toks := tk })
    (hco : scope.isCoroutine = false) (hgen : scope.isGenerator = false) (hk : scope.kind = .function)
    (ret : ∀ L' v news' h' tk', (∀ q ∈ news₁, q.1 < L') → (∀ q ∈ rest, q.1 < L') → (∀ x ∈ news', ∀ q ∈ rest, x.1 ≠ q.1) → Post L' v news' → Fr h₀ L h' m → News h₀ L h' news' → News h₀ L h' rest → Q v { s with heap := h', toks := tk' }) :
    wpAny (model prog w) A (call (.ref f) args) Q E s := by
  refine wpAny_call ?_
  obtain ⟨FG, BG, st, lv⟩ := groundX (R := fun r s' => match r with | .ok (.ret v) => Q v s' | .ok _ => False | .error e => E e s') B F N₁ hA hf hke
  refine codeAny_call_function (fd := fnOf name qual params body scope dV kV doc pm an cdv ct) hroom ((X₀.keeps F.keep) _ _ ho) rfl hco hgen rfl (codeRec_of (X₀.keeps F.keep) hcd) (hbind _ _ _ _ ?_)
  refine wpAny_newFunctionEnv_cells hk (kindsX hkind _) fun env' he s' x => ?_
  subst he
  refine ⟨(T.nolimit.keeps F.keep).keeps x.toInCall.keep, codeAny_func ?_⟩
  obtain ⟨h₁, tk, rfl, _⟩ := x.done
  have hk₁ := x.toInCall.keep
  obtain ⟨cells, NC, Y⟩ := Cl.news (h₀ := s.heap) (Nat.le_refl _) fun n c hm => ⟨x.cell n c (lookup_of_mem_nodup (cellsFrom_names scope.names 0 (s.heap.objs.size + 1) [] [] rfl ▸ hnd) hm), x.above n c hm⟩
  refine wpAny_mono (h (hideAll s.heap (news₁.map (·.1))) s.heap.objs.size h₁ tk cells ⟨x.toInCall.ns, fun b o e => hk₁ b o (of_hideAll _ e), Nat.le_of_eq (hideAll_size _ _)⟩ (fun q hq => ?_) Y BG (X₀.keeps fun b o e => st b o e) (T.keeps fun b o e => st b o e) (fun q hq => Heap.lt_size (N₁ q hq).1)) (fun fl s' hl => ?_) fun _ _ y => y.elim
  · rcases List.mem_append.mp hq with hq | hq
    · refine ⟨(NC q hq).1, (NC q hq).2.1, ?_⟩
      cases z : (hideAll s.heap (news₁.map (·.1))).get? q.1 with
      | none => rfl
      | some o => have := of_hideAll _ z; rw [(NC q hq).2.2] at this; cases this
    · exact ⟨hk₁ _ _ (N₁ q hq).1, Nat.ne_of_lt (Heap.lt_size (N₁ q hq).1), hideAll_none _ (List.mem_map_of_mem hq)⟩
  · obtain ⟨h', tk', m', news', rfl, F', N', hp⟩ := hl
    refine lv _ _ ⟨s.heap.objs.size, m', news', F', N', fun kF kN => ?_⟩
    refine ret s.heap.objs.size _ news' h' tk' (fun q hq => Heap.lt_size (N₁ q hq).1) (fun q hq => Heap.lt_size (N₂ q hq).1) (fun x hx q hq e => ?_) hp kF kN fun q hq => ⟨?_, (N₂ q hq).2⟩
    · have z := (N' x hx).2.2
      rw [e, hideAll_get _ (N₂ q hq).1 (apart q hq)] at z; cases z
    · exact F'.keep _ _ (hideAll_get _ (N₂ q hq).1 (apart q hq))
end
end Mine
end
section
open PySem PySem.W PyProof.Rows PySem.Calls
namespace Mine
/-- a made function that answers, and leaves the ledger as it is -/
def CallsTo (w : World) (f : Addr) (newsF : List (Addr × Obj)) (args : List Value) (R : Tok → Value) : Prop :=
  ∀ (p : Program) (loose : List Str) (mean : ExcName → Option Value) (mg mb : Str → Option Value) (A : Around) (env : Env) (outer : List Env) (A₀ : Around) (base h₀ : Heap) (L : Addr) (m : Str → Option Value) (s : Shared) (Q E : Value → Shared → Prop) (news : List (Addr × Obj)),
    Below A₀ base outer h₀ → Fr h₀ L s.heap m → (hd.heap_1 w.params).In h₀ → Top p loose mean mg mb h₀ → A.frames = some (env :: outer) → env.frame = some L → env.scope.kind = .function → A.handled = none → News h₀ L s.heap news → SubL newsF news → A.depth + 3 < recursionLimit → A.units + 100 < cLine →
    (∀ (t : Tok) (h' : Heap) (tk' : Nat), Fr h₀ L h' m → News h₀ L h' news → Q (R t) { s with heap := h', toks := tk' }) →
    wpAny (model PySem.Challenge.rw_pf0276_01.row.toRowW.prog w) A (call (.ref f) args) Q E s
theorem CallsTo.use {w : World} {f : Addr} {newsF : List (Addr × Obj)} {args : List Value} {R : Tok → Value} (c : CallsTo w f newsF args R)
    {p : Program} {loose : List Str} {mean : ExcName → Option Value} {mg mb : Str → Option Value} {A : Around} {env : Env} {outer : List Env} {A₀ : Around} {base h₀ : Heap} {L : Addr} {m : Str → Option Value} {s : Shared} {Q E : Value → Shared → Prop} {news : List (Addr × Obj)}
    (B : Below A₀ base outer h₀) (F : Fr h₀ L s.heap m) (X : (hd.heap_1 w.params).In h₀) (T : Top p loose mean mg mb h₀) (hA : A.frames = some (env :: outer)) (hf : env.frame = some L) (hk : env.scope.kind = .function) (hh : A.handled = none) (N : News h₀ L s.heap news) (hs : SubL newsF news) (hdp : A.depth + 3 < recursionLimit) (hun : A.units + 100 < cLine)
    (ret : ∀ (t : Tok) (h' : Heap) (tk' : Nat), Fr h₀ L h' m → News h₀ L h' news → Q (R t) { s with heap := h', toks := tk' }) :
    wpAny (model PySem.Challenge.rw_pf0276_01.row.toRowW.prog w) A (call (.ref f) args) Q E s :=
  c _ _ _ _ _ _ _ _ _ _ _ _ _ _ _ _ _ B F X T hA hf hk hh N hs hdp hun ret
end Mine
end
section
open PySem PySem.W PyProof.Rows PySem.Calls PySem.Spec PyProof.Rows.LCg
namespace Mine
section
variable {prog : Program} {w : World} {A : Around} {E : Value → Shared → Prop} {s : Shared} {h₀ : Heap} {L : Addr} {m : Str → Option Value} {env : Env}
theorem empty_block {elt target iter : Expr} {ifs : List Expr} {scope : Scope} {cl : List (Str × Addr)} {pos : Pos} {s₂ : Shared} {I ax : Addr} {RR : Value → Addr → Result → Shared → Prop}
    (hh : A.handled = none) (hcell : ∀ y ∈ scope.names, y.2 ≠ .cell) (hkind : scope.kind = .function) (hne : ax ≠ I) (hit : s₂.heap.IsListIter I ax 0) (hl : s₂.heap.IsList ax #[])
    (R : ∀ D C h tk m', D = s₂.heap.objs.size → D < C → (∀ b o, b ≠ I → s₂.heap.get? b = some o → h.get? b = some o) → h.get? D = some (listOf #[] 0) → h.Ns C m' → (∀ o, s₂.heap.get? C ≠ some o) → RR (.ref D) C (.ok .next) { s₂ with heap := h, toks := tk }) :
    wpAny (model prog w) A (newList []) (fun acc s₃ => wpAny (model prog w) A (newFunctionEnv scope env.globals cl [] env.qual none .none (some env)) (fun cenv s₄ =>
      codeAny (model prog w) A (.compStart (.ListComp elt [⟨target, iter, ifs, 0⟩] scope pos) 0 (.ref I) acc { cenv with scope := relabel scope env }) (RR acc cenv.locals) s₄) E s₃) E s₂ := by
  refine wpAny_newObj_type (wpAny_newFunctionEnv hcell (by intro y hy; simp at hy) (fun h₁ hns₁ hsb₁ => ?_) hkind)
  dsimp only at hns₁ hsb₁ ⊢
  have W := Walks.list (prog := prog) (w := w) hh I ax hne #[]
  have hI : I < s₂.heap.objs.size := by obtain ⟨o, e, _⟩ := hit; exact Heap.lt_size e
  have hax : ax < s₂.heap.objs.size := by obtain ⟨o, e, _⟩ := hl; exact Heap.lt_size e
  have hsz : (s₂.heap.push { cls := .type "list", dict := none, data := .seq ([] : List Value).toArray }).objs.size = s₂.heap.objs.size + 1 := Heap.size_push ..
  have old : ∀ b o, s₂.heap.get? b = some o → h₁.get? b = some o := fun b o e => hsb₁.extBut b o (by rw [hsz]; exact Nat.ne_of_lt (Nat.lt_succ_of_lt (Heap.lt_size e))) (Heap.get?_push_of_some _ (Heap.get?_push_of_some _ e))
  have hacc : h₁.get? s₂.heap.objs.size = some (listOf #[] 0) := hsb₁.extBut _ _ (by rw [hsz]; exact Nat.ne_of_lt (Nat.lt_succ_self _)) (Heap.get?_push_of_some _ (Heap.get?_push_size _ rfl))
  have st₁ : h₁.IsListIter I ax 0 ∧ h₁.IsList ax #[] := ⟨hit.at fun o e => old _ o e, hl.at fun o e => old _ o e⟩
  have loop : ∀ s₃ : Shared, s₃ = { s₂ with heap := h₁, toks := s₂.toks + ([] : List (Str × Value)).length } →
      codeAny (model prog w) A (.compLoop (.ListComp elt [⟨target, iter, ifs, 0⟩] scope pos) 0 (.ref I) (.ref s₂.heap.objs.size) (compEnvC scope cl (s₂.heap.push { cls := .type "list", dict := none, data := .seq ([] : List Value).toArray }).objs.size env))
        (RR (.ref s₂.heap.objs.size) (s₂.heap.push { cls := .type "list", dict := none, data := .seq ([] : List Value).toArray }).objs.size) s₃ := by
    rintro s₃ rfl
    refine codeAny_loop rfl (fun _ s' => s' = { s₂ with heap := h₁, toks := s₂.toks + ([] : List (Str × Value)).length }) (fun n s' hs' => ?_) 0 rfl
    subst hs'
    show wpAny _ A ((compTurn (.ListComp elt [⟨target, iter, ifs, 0⟩] scope pos) 0 (.ref I) (.ref s₂.heap.objs.size) (compEnvC scope cl _ env)).onRaise (fun x => do noteFrame x _; theTreesLotGoes x)) _ _ _
    refine wpAny_noted ?_
    rw [compTurn_list]
    refine wpAny_bind (wpAny_standAt (wpAny_bind (W.done _ _ _ st₁ fun h₂ tk₂ hk₂ => ?_)))
    refine wpAny_pure ?_
    have hCI : (s₂.heap.push { cls := .type "list", dict := none, data := .seq ([] : List Value).toArray }).objs.size ≠ I := by rw [hsz]; exact Nat.ne_of_gt (Nat.lt_succ_of_lt hI)
    refine R _ _ h₂ tk₂ _ rfl (by rw [hsz]; exact Nat.lt_succ_self _) (fun b o hb e => hk₂ b o (by simpa using hb) (old b o e)) (hk₂ _ _ (by simpa using Nat.ne_of_gt hI) hacc) (hns₁.at' fun o e => hk₂ _ o (by simpa using hCI) e) fun o e => ?_
    have := Heap.lt_size e
    rw [hsz] at this
    exact absurd this (Nat.not_lt.mpr (Nat.le_succ _))
  exact codeAny_compStart_list (loop _ rfl) (W.self 0 _ _ _ st₁ (loop _ rfl))
/-- the source of a comprehension: an empty list of the ledger -/
def EmptySrc (A : Around) (h₀ : Heap) (L : Addr) (m : Str → Option Value) (Fin : List (Addr × Obj) → Shared → Prop) (xv : Value) (s₁ : Shared) : Prop :=
  ∃ ax news n, xv = .ref ax ∧ A.handled = none ∧ Fr h₀ L s₁.heap m ∧ News h₀ L s₁.heap news ∧ (ax, listOf #[] n) ∈ news ∧ Fin news s₁
theorem EmptySrc.intro {Fin : List (Addr × Obj) → Shared → Prop} {s₁ : Shared} {ax : Addr} {news : List (Addr × Obj)} {n : Nat} (hh : A.handled = none) (F : Fr h₀ L s₁.heap m) (N : News h₀ L s₁.heap news) (hm : (ax, listOf #[] n) ∈ news) (h : Fin news s₁) :
    EmptySrc A h₀ L m Fin (.ref ax) s₁ := ⟨ax, news, n, rfl, hh, F, N, hm, h⟩
def FinE0 (h₀ : Heap) (L : Addr) (m : Str → Option Value) (Q : Value → Shared → Prop) (news : List (Addr × Obj)) (s₁ : Shared) : Prop :=
  ∀ D h' tk, Fr h₀ L h' m → News h₀ L h' ((D, listOf #[] 0) :: news) → (∀ p ∈ news, p.1 < D) → Q (.ref D) { s₁ with heap := h', toks := tk }
def FinA0 (h₀ : Heap) (L : Addr) (m : Str → Option Value) (y : Str) (Q : Flow → Shared → Prop) (news : List (Addr × Obj)) (s₁ : Shared) : Prop :=
  ∀ D h' tk, Fr h₀ L h' (fun z => if z = y then some (.ref D) else m z) → News h₀ L h' ((D, listOf #[] 0) :: news) → (∀ p ∈ news, p.1 < D) → Q .next { s₁ with heap := h', toks := tk }
theorem empty_eval {elt target iter : Expr} {ifs : List Expr} {scope : Scope} {cl : List (Str × Addr)} {pos : Pos} {Q : Value → Shared → Prop} (F₀ : Fr h₀ L s.heap m)
    (hclos : closureFor scope env = pure cl) (hcell : ∀ y ∈ scope.names, y.2 ≠ .cell) (hkind : scope.kind = .function) (hnames : ∀ y ∈ scope.names, y.2 = .local → scope.names.lookup y.1 = some .local)
    (h : wpAny (model prog w) A (eval iter env) (EmptySrc A h₀ L m (FinE0 h₀ L m Q)) E s) (hs : ∀ x, foldedSetIterable iter env x = pure x := by intro _; rfl) :
    wpAny (model prog w) A (eval (.ListComp elt [⟨target, iter, ifs, 0⟩] scope pos) env) Q E s := by
  rw [eval_ListComp]
  refine wpAny_comprehension_free (use := none) rfl hs hclos hkind hnames (wpAny_mono h (fun xv s₁ h₁ => ?_) fun _ _ e => e)
  obtain ⟨ax, news, n, rfl, hh, F, N, hm, fin⟩ := h₁
  have hl : s₁.heap.IsList ax #[] := ⟨_, (N _ hm).1, rfl, n, rfl⟩
  have hlt : ax < s₁.heap.objs.size := Heap.lt_size (N _ hm).1
  refine wpAny_pyIter_list hl ?_
  refine empty_block hh hcell hkind (Nat.ne_of_lt hlt) ⟨_, Heap.get?_push_size _ rfl, rfl, rfl⟩ (hl.push _) fun D C h' tk m' hD hDC old hd hn hC => ?_
  have hsz : ∀ o : Obj, (s₁.heap.push o).objs.size = s₁.heap.objs.size + 1 := fun o => Heap.size_push ..
  have keep : ∀ b o, s₁.heap.get? b = some o → h'.get? b = some o := fun b o e => old b o (Nat.ne_of_lt (Heap.lt_size e)) (Heap.get?_push_of_some _ e)
  have hDs : s₁.heap.objs.size < D := by rw [hD, hsz]; exact Nat.lt_succ_self _
  have hLD : L < D := Nat.lt_trans F.ns.lt hDs
  have none₀ : ∀ b, s₁.heap.objs.size ≤ b → h₀.get? b = none := fun b hb => by
    cases e : h₀.get? b with
    | none => rfl
    | some o => exact absurd (Heap.lt_size (F.keep b o e)) (Nat.not_lt.mpr hb)
  have F' : Fr h₀ L h' m := F.keeps keep
  have hC₀ : h₀.get? C = none := none₀ C (Nat.le_of_lt (Nat.lt_trans hDs hDC))
  refine ⟨m', hn, fun h'' hs'' => fin D h'' tk (F'.change hs'' (Nat.ne_of_gt (Nat.lt_trans hLD hDC)) hC₀) (fun p hp => ?_) fun p hp => Nat.lt_trans (Heap.lt_size (N p hp).1) hDs⟩
  rcases List.mem_cons.mp hp with rfl | hp
  · exact ⟨hs''.extBut _ _ (Nat.ne_of_lt hDC) hd, Nat.ne_of_gt hLD, none₀ _ (Nat.le_of_lt hDs)⟩
  · exact ⟨hs''.extBut _ _ (Nat.ne_of_lt (Nat.lt_trans (Nat.lt_trans (Heap.lt_size (N p hp).1) hDs) hDC)) (keep _ _ (N p hp).1), (N p hp).2⟩
theorem empty_assign {elt target iter : Expr} {ifs : List Expr} {y : Str} {py : Pos} {scope : Scope} {cl : List (Str × Addr)} {pos spos : Pos} {Q : Flow → Shared → Prop} (F₀ : Fr h₀ L s.heap m) (hLe : env.locals = L)
    (hsw : swapsWith (.ListComp elt [⟨target, iter, ifs, 0⟩] scope pos) (some (.Name y py)) spos.line env = pure true)
    (hclos : closureFor scope env = pure cl) (hcell : ∀ z ∈ scope.names, z.2 ≠ .cell) (hkind : scope.kind = .function) (hnames : ∀ z ∈ scope.names, z.2 = .local → scope.names.lookup z.1 = some .local)
    (hy : env.kindOf y = some .local) (hp : (env.scope.kind == .class || (env.scope.kind == .module && env.locals != env.globals)) = false)
    (h : wpAny (model prog w) A (eval iter env) (EmptySrc A h₀ L m (FinA0 h₀ L m y Q)) E s) (hs : ∀ x, foldedSetIterable iter env x = pure x := by intro _; rfl) :
    wpAny (model prog w) A (exec (.Assign [.Name y py] (.ListComp elt [⟨target, iter, ifs, 0⟩] scope pos) spos) env) Q E s := by
  subst hLe
  rw [exec_Assign_Name_used _ _ _ _ hsw]
  refine wpAny_bind (wpAny_standAt (wpAny_bind ?_))
  show wpAny _ A (do let _ ← comprehension (.ListComp elt [⟨target, iter, ifs, 0⟩] scope pos) scope env _ (newList []) false (eval iter env) (some (assign (.Name y py) env))) _ _ s
  refine wpAny_bind (wpAny_mono (wpAny_comprehension_free (use := some (assign (.Name y py) env)) (Q := fun _ s' => Q .next s') rfl hs hclos hkind hnames
    (wpAny_mono h (fun xv s₁ h₁ => ?_) fun _ _ e => e)) (fun _ s' hq => wpAny_pure (wpAny_pure hq)) fun _ _ e => e)
  obtain ⟨ax, news, n, rfl, hh, F, N, hm, fin⟩ := h₁
  have hl : s₁.heap.IsList ax #[] := ⟨_, (N _ hm).1, rfl, n, rfl⟩
  have hlt : ax < s₁.heap.objs.size := Heap.lt_size (N _ hm).1
  refine wpAny_pyIter_list hl ?_
  refine empty_block hh hcell hkind (Nat.ne_of_lt hlt) ⟨_, Heap.get?_push_size _ rfl, rfl, rfl⟩ (hl.push _) fun D C h' tk m' hD hDC old hd hn hC => ?_
  have hsz : ∀ o : Obj, (s₁.heap.push o).objs.size = s₁.heap.objs.size + 1 := fun o => Heap.size_push ..
  have keep : ∀ b o, s₁.heap.get? b = some o → h'.get? b = some o := fun b o e => old b o (Nat.ne_of_lt (Heap.lt_size e)) (Heap.get?_push_of_some _ e)
  have hDs : s₁.heap.objs.size < D := by rw [hD, hsz]; exact Nat.lt_succ_self _
  have hLs : env.locals < s₁.heap.objs.size := F.ns.lt
  have hLD : env.locals < D := Nat.lt_trans hLs hDs
  have none₀ : ∀ b, s₁.heap.objs.size ≤ b → h₀.get? b = none := fun b hb => by
    cases e : h₀.get? b with
    | none => rfl
    | some o => exact absurd (Heap.lt_size (F.keep b o e)) (Nat.not_lt.mpr hb)
  have F' : Fr h₀ env.locals h' m := F.keeps keep
  have hC₀ : h₀.get? C = none := none₀ C (Nat.le_of_lt (Nat.lt_trans hDs hDC))
  have hLC : env.locals < C := Nat.lt_trans hLD hDC
  show wpAny _ A (assign (.Name y py) env (.ref D)) _ _ _
  refine wpAny_assign_Name (wpAny_storeName_local hy F'.ns (fun h₂ hn₂ hs₂ => ?_) hp)
  have hL₀ : h₀.get? env.locals = none := Heap.get?_none_of_le F'.above
  have F₂ : Fr h₀ env.locals h₂ (fun z => if z = y then some (.ref D) else m z) := ⟨hn₂, fun b o e => hs₂.extBut b o (fun q => by rw [q, hL₀] at e; cases e) (F'.keep b o e), F'.above⟩
  refine ⟨m', hn.sameBut hs₂ (Nat.ne_of_gt hLC), fun h'' hs'' => fin D h'' _ (F₂.change hs'' (Nat.ne_of_gt hLC) hC₀) (fun p hp => ?_) fun p hp => Nat.lt_trans (Heap.lt_size (N p hp).1) hDs⟩
  rcases List.mem_cons.mp hp with rfl | hp
  · exact ⟨hs''.extBut _ _ (Nat.ne_of_lt hDC) (hs₂.extBut _ _ (Nat.ne_of_gt hLD) hd), Nat.ne_of_gt hLD, none₀ _ (Nat.le_of_lt hDs)⟩
  · exact ⟨hs''.extBut _ _ (Nat.ne_of_lt (Nat.lt_trans (Nat.lt_trans (Heap.lt_size (N p hp).1) hDs) hDC)) (hs₂.extBut _ _ (N p hp).2.1 (keep _ _ (N p hp).1)), (N p hp).2⟩
end
end Mine
end
section
open PySem PySem.W PyProof.Rows PySem.Calls PySem.Spec
namespace Mine
section
variable {prog : Program} {w : World} {A : Around} {E : Value → Shared → Prop} {s : Shared} {env : Env} {h₀ : Heap} {x : Str} {body : List Stmt} {Q : Flow → Shared → Prop}
/-- a turn's end: the iterator's object stands, the ledger is any that J knows -/
def TurnEnd (h₀ : Heap) (L : Addr) (J : (Str → Option Value) → List (Addr × Obj) → Prop) (I : Addr) (oi : Obj) (s₁ : Shared) (Q : Flow → Shared → Prop) (f : Flow) (s₂ : Shared) : Prop :=
  match f with
  | .ret v => Q (.ret v) s₂
  | .brk => Q .next s₂
  | _ => ∃ h' tk m' nx, s₂ = { s₁ with heap := h', toks := tk } ∧ Fr h₀ L h' m' ∧ News h₀ L h' ((I, oi) :: nx) ∧ (∀ p ∈ nx, p.1 ≠ I) ∧ J m' nx
theorem range_turns {r : Addr} {a₀ b₀ : Int} {t₀ u₀ v₀ : Tok} {n : Nat} {m₀ : Str → Option Value} {news : List (Addr × Obj)} (J : Nat → (Str → Option Value) → List (Addr × Obj) → Prop)
    (hh : A.handled = none) (hr : IsRange s.heap r a₀ b₀ 1 t₀ u₀ v₀) (hsmall : Builtin.Range.small a₀ b₀ 1 = true) (hn : Builtin.Range.rangeSize a₀ b₀ 1 = (n : Int)) (F : Fr h₀ env.locals s.heap m₀) (N : News h₀ env.locals s.heap news) (hj : J 0 m₀ news)
    (turn : ∀ i v m₁ nx I oi h tk, i < n → (∀ p ∈ nx, p.1 ≠ I) → J i m₁ nx → Fr h₀ env.locals h (fun y => if y = x then some v else m₁ y) → News h₀ env.locals h ((I, oi) :: nx) →
      wpAny (model prog w) A (execs body env) (TurnEnd h₀ env.locals (J (i + 1)) I oi { s with heap := h, toks := tk } Q) E { s with heap := h, toks := tk })
    (done : ∀ m₁ nx h tk, J n m₁ nx → Fr h₀ env.locals h m₁ → News h₀ env.locals h nx → Q .next { s with heap := h, toks := tk }) :
    wpAny (model prog w) A (pyIter (.ref r)) (fun it s₂ => LoopAtV prog w A h₀ env x body Q E it s₂) E s := by
  refine wpAny_pyIter_range hr hsmall ?_
  have W : Walks prog w A s.heap.objs.size [s.heap.objs.size] [s.heap.objs.size] n (fun i v => i < n ∧ ∃ t, v = .int (a₀ + i * 1) t)
      (fun i h => IsRangeIter h s.heap.objs.size (a₀ + (i : Nat) * 1) ((n : Int) - (i : Nat)) 1) := (Walks.range hh _ a₀ 1 n).bound
  refine ⟨_, _, _, n, _, _, m₀, news, J, rfl, W, ?_, ?_, ?_, (by show IsRangeIter _ _ _ _ _; rw [hn]; simpa using Heap.get?_push_size _ rfl), F.push _, (fun p hp => ⟨Heap.get?_push_of_some _ (N p hp).1, (N p hp).2⟩), hj, ?_, ?_⟩
  · intro hm
    exact absurd F.ns.lt ((List.mem_singleton.mp hm) ▸ Nat.lt_irrefl _)
  · intro b hb
    rw [List.mem_singleton.mp hb]
    exact next_is_new F
  · intro p hp hI
    exact absurd (Heap.lt_size (N p hp).1) ((List.mem_singleton.mp hI) ▸ Nat.lt_irrefl _)
  · rintro i v m₁ nx s₁ own ⟨hh', tk', rfl⟩ hin - hJ hoff hown hget hin' hst F₁ N₁
    obtain ⟨oi, hst'⟩ : ∃ oi, hh'.get? s.heap.objs.size = some oi := ⟨_, hst⟩
    have hmem := hin' s.heap.objs.size (List.mem_singleton.mpr rfl) (next_is_new F) oi hst'
    have same : ∀ p ∈ own, p = (s.heap.objs.size, oi) := fun p hp => by
      have h1 := List.mem_singleton.mp (hown p hp)
      have h2 := hget p hp
      have h3 : hh'.get? p.1 = some p.2 := h2
      rw [h1] at h3
      exact Prod.ext h1 (Option.some.inj (h3.symm.trans hst'))
    refine wpAny_mono (turn i v m₁ nx s.heap.objs.size oi hh' tk' hin (fun p hp e => hoff p hp (List.mem_singleton.mpr e)) hJ F₁ (fun p hp => ?_)) (fun f s₂ p => ?_) fun _ _ e => e
    · rcases List.mem_cons.mp hp with rfl | hp
      · exact N₁ _ (List.mem_append_left _ hmem)
      · exact N₁ _ (List.mem_append_right _ hp)
    · have fin : (∃ h' tk m' nx, s₂ = { ({ s with heap := hh', toks := tk' } : Shared) with heap := h', toks := tk } ∧ Fr h₀ env.locals h' m' ∧ News h₀ env.locals h' ((s.heap.objs.size, oi) :: nx) ∧ (∀ p ∈ nx, p.1 ≠ s.heap.objs.size) ∧ J (i + 1) m' nx) →
          LoopStepU h₀ env.locals [s.heap.objs.size] own (J (i + 1)) { s with heap := hh', toks := tk' } .next s₂ := by
        rintro ⟨h', tk, m', nx', e, F', N', ha, hm⟩
        refine ⟨rfl, h', tk, m', nx', e, F', fun p hp => ?_, fun p hp hq => ha p hp (List.mem_singleton.mp hq), hm⟩
        rcases List.mem_append.mp hp with hp | hp
        · rw [same p hp]; exact N' _ (.head _)
        · exact N' _ (.tail _ hp)
      cases f with
      | ret v => exact .ret p
      | brk => exact .brk p
      | next => exact .next (fin p)
      | cont => exact .cont (fin p)
  · rintro h' tk m' news' F' N' _ hJ
    exact done m' news' h' tk hJ F' N'
/-- a statement's word, and the rest from there -/
theorem execs_cut {st : Stmt} {rest : List Stmt} (Mid : Shared → Prop)
    (h1 : wpAny (model prog w) A (exec st env) (fun fl s' => match fl with | .next => Mid s' | .ret v => Q (.ret v) s' | .brk => Q .brk s' | .cont => Q .cont s') E s)
    (h2 : ∀ s', Mid s' → wpAny (model prog w) A (execs rest env) Q E s') : wpAny (model prog w) A (execs (st :: rest) env) Q E s := by
  refine wpAny_execs_cons (wpAny_mono h1 (fun fl s' h => ?_) fun _ _ e => e)
  cases fl with
  | next => exact h2 s' h
  | ret v => exact h
  | brk => exact h
  | cont => exact h
end
end Mine
end
section
open PySem PySem.W PyProof.Rows PySem.Calls
namespace Mine
section
variable {prog : Program} {w : World} {A A₀ : Around} {E Q : Value → Shared → Prop} {s : Shared} {K : Frag} {L : Addr} {h₀ base : Heap} {m mg mb : Str → Option Value} {p : Program} {loose : List Str} {mean : ExcName → Option Value}
theorem enter_code {R : Result → Shared → Prop} {env : Env} {outer : List Env} {name qual : Str} {params : Arguments} {body : List Stmt} {scope : Scope} {dV kV doc pm cdv ct oc : Value} {an od : Option Addr} {osl : Array (Option Value)} {f : Addr} {args : List Value} {news₁ rest : List (Addr × Obj)}
    (binds : List (Str × Value)) (Post : Addr → Value → List (Addr × Obj) → Prop)
    (B : Below A₀ base outer h₀) (F : Fr h₀ L s.heap m) (X₀ : K.In h₀) (T : Top p loose mean mg mb h₀) (N₁ : News h₀ L s.heap news₁) (N₂ : News h₀ L s.heap rest) (apart : ∀ q ∈ rest, q.1 ∉ news₁.map (·.1))
    (hA : A.frames = some (env :: outer)) (hf : env.frame = some L) (hke : env.scope.kind = .function)
    (ho : K.lookup f = some ⟨oc, od, .func (fnOf name qual params body scope dV kV doc pm an cdv ct), osl⟩) (hcd : codeIn K cdv qual = true) (hroom : A.depth < recursionLimit)
    (hbind : BindsTo s (fnOf name qual params body scope dV kV doc pm an cdv ct) ⟨args, []⟩ binds) (hloc : ∀ y ∈ binds, scope.names.lookup y.1 = some .local)
    (h : ∀ g L' h₁, Fr g L' h₁ (fun y => binds.reverse.lookup y) → News g L' h₁ news₁ → Below A base (env :: outer) g → K.In g → Top p loose mean mg mb g → (∀ q ∈ news₁, q.1 < L') →
      wpAny (model prog w) (A.deeper (envOf qual scope L' f cdv)) (execs body (envOf qual scope L' f cdv)) (End1 s g L' Post) (fun _ _ => False) { s with heap := h₁, toks := s.toks + binds.length })
    (hco : scope.isCoroutine = false) (hgen : scope.isGenerator = false) (hk : scope.kind = .function) (hcell : ∀ x ∈ scope.names, x.2 ≠ .cell)
    (ret : ∀ L' v news' h' tk', (∀ q ∈ news₁, q.1 < L') → (∀ q ∈ rest, q.1 < L') → (∀ x ∈ news', ∀ q ∈ rest, x.1 ≠ q.1) → Post L' v news' → Fr h₀ L h' m → News h₀ L h' news' → News h₀ L h' rest → R (.ok (.ret v)) { s with heap := h', toks := tk' }) :
    codeAny (model prog w) A (.call (.ref f) ⟨args, []⟩) R s := by
  obtain ⟨FG, BG, st, lv⟩ := groundX (R := R) B F N₁ hA hf hke
  refine codeAny_call_def (fd := fnOf name qual params body scope dV kV doc pm an cdv ct) (body := body) (binds := binds) hroom ((X₀.keeps F.keep) _ _ ho) rfl (T.nolimit.keeps F.keep) (codeRec_of (X₀.keeps F.keep) hcd) rfl hbind hcell hloc (fun h₁ hns hk₁ => ?_) hco hgen hk
  refine wpAny_mono (h (hideAll s.heap (news₁.map (·.1))) s.heap.objs.size h₁ ⟨hns, fun b o e => hk₁ b o (of_hideAll _ e), Nat.le_of_eq (hideAll_size _ _)⟩
    (fun q hq => ⟨hk₁ _ _ (N₁ q hq).1, Nat.ne_of_lt (Heap.lt_size (N₁ q hq).1), hideAll_none _ (List.mem_map_of_mem hq)⟩) BG (X₀.keeps fun b o e => st b o e) (T.keeps fun b o e => st b o e) (fun q hq => Heap.lt_size (N₁ q hq).1)) (fun fl s' hl => ?_) fun _ _ y => y.elim
  obtain ⟨h', tk', m', news', rfl, F', N', hp⟩ := hl
  refine lv _ _ ⟨s.heap.objs.size, m', news', F', N', fun kF kN => ?_⟩
  refine ret s.heap.objs.size _ news' h' tk' (fun q hq => Heap.lt_size (N₁ q hq).1) (fun q hq => Heap.lt_size (N₂ q hq).1) (fun x hx q hq e => ?_) hp kF kN fun q hq => ⟨?_, (N₂ q hq).2⟩
  · have z := (N' x hx).2.2
    rw [e, hideAll_get _ (N₂ q hq).1 (apart q hq)] at z; cases z
  · exact F'.keep _ _ (hideAll_get _ (N₂ q hq).1 (apart q hq))
end
end Mine
end
section
open PySem PySem.W PyProof.Rows PySem.Calls
namespace Mine
/-- what is left of a ledger beside a part of it -/
def Part (all led rest : List (Addr × Obj)) : Prop := (∀ q ∈ rest, q ∈ all) ∧ ∀ q ∈ rest, q.1 ∉ led.map (·.1)
theorem Part.nil {led : List (Addr × Obj)} : Part [] led [] := ⟨fun _ h => (List.not_mem_nil h).elim, fun _ h => (List.not_mem_nil h).elim⟩
theorem Part.drop {all led rest : List (Addr × Obj)} {q : Addr × Obj} (_ : q ∈ led) (r : Part all led rest) : Part (q :: all) led rest := ⟨fun x hx => .tail _ (r.1 x hx), r.2⟩
theorem Part.keep {all led rest : List (Addr × Obj)} {q : Addr × Obj} (h : ∀ x ∈ led, x.1 ≠ q.1) (r : Part all led rest) : Part (q :: all) led (q :: rest) := by
  refine ⟨fun x hx => ?_, fun x hx hm => ?_⟩
  · rcases List.mem_cons.mp hx with rfl | hx
    · exact .head _
    · exact .tail _ (r.1 x hx)
  · rcases List.mem_cons.mp hx with rfl | hx
    · obtain ⟨y, hy, e⟩ := List.mem_map.mp hm
      exact h y hy e
    · exact r.2 x hx hm
theorem Part.news {all led rest : List (Addr × Obj)} {h₀ h : Heap} {L : Addr} (P : Part all led rest) (N : News h₀ L h all) : News h₀ L h rest := fun q hq => N q (P.1 q hq)
theorem Part.apart {all led rest : List (Addr × Obj)} (P : Part all led rest) : ∀ q ∈ rest, q.1 ∉ led.map (·.1) := P.2
theorem newsSub {all led : List (Addr × Obj)} {h₀ h : Heap} {L : Addr} (N : News h₀ L h all) (S : SubL led all) : News h₀ L h led := fun q hq => N q (S.mem q hq)
theorem newsApp {l r : List (Addr × Obj)} {h₀ h : Heap} {L : Addr} (N : News h₀ L h l) (R : News h₀ L h r) : News h₀ L h (l ++ r) := fun q hq => (List.mem_append.mp hq).elim (N q) (R q)
end Mine
end
section
open PySem PySem.W PyProof.Rows PySem.Calls
namespace Mine
def PutAs (name : Str) (v : Value) (es es' : List DictEntry) : Prop := getL name es' = some (some v) ∧ ∀ n', (name == n') = false → getL n' es' = getL n' es
theorem PutAs.same {name : Str} {v : Value} {es es' : List DictEntry} (h : PutAs name v es es') : getL name es' = some (some v) := h.1
theorem PutAs.other {name n' : Str} {v : Value} {es es' : List DictEntry} (h : PutAs name v es es') (hn : (name == n') = false) : getL n' es' = getL n' es := h.2 n' hn
section
variable {prog : Program} {w : World} {A : Around} {E : Value → Shared → Prop} {s : Shared} {K : Frag} {L x dx C : Addr} {h₀ : Heap} {m : Str → Option Value} {ox : Obj} {es : List DictEntry} {n k : Nat} {name : Str} {v : Value} {news : List (Addr × Obj)}
theorem set_abs {news' : List DictEntry → Nat → List (Addr × Obj)} {Q : Unit → Shared → Prop} (F : Fr h₀ L s.heap m) (X₀ : K.In h₀) (N : News h₀ L s.heap news) (I : InstAt s.heap x ox C (some (dictOf es n))) (hd : ox.dict = some dx)
    (hs : findIn K (.ref C) "__setattr__" = some (some (.builtin "object.__setattr__"))) (hp : plainOver K C = true) (ht : takerIn K C name = some none) (hh : hasDictIn K C = true) (aD : AbsD es k) (hk : k ≤ 900)
    (U : ∀ es' n', Upd dx (dictOf es n) (dictOf es' n') news (news' es' n'))
    (h : ∀ es' n' h', AbsD es' (k + 1) → PutAs name v es es' → Fr h₀ L h' m → News h₀ L h' (news' es' n') → Q () { s with heap := h', toks := s.toks + 2 }) :
    wpAny (model prog w) A (setAttr (.ref x) name v) Q E s :=
  set_dict F X₀ N I hd hs hp ht hh (getL_some _ _ aD.plain) rfl (U _ _) (Nat.le_trans (aD.put name _ _ v).len (by omega))
    fun h' F' N' => h _ _ h' (aD.put name _ _ v) ⟨getL_same' name aD _ _ v, fun n' hn => getL_other aD hn _ _ v⟩ F' N'
end
end Mine
end
section
open PySem PySem.W PyProof.Rows PySem.Calls
namespace Mine
def chal (k : Nat) : Array UInt8 := Array.replicate 8 (UInt8.ofNat (40 + k))
end Mine
end
section
open PySem PySem.W PyProof.Rows PySem.Calls
namespace Mine
/-- the law's own body, its scope, its loop's body: read off the given program -/
def lawScope : Scope := match PySem.Challenge.pw_pf0276_01.main.body.getLast? with
  | some (Stmt.FunctionDef _ _ _ _ _ _ sc _ _ _) => sc
  | _ => { kind := .function, names := [], isGenerator := false, isCoroutine := false, more := [] }
def lawBody : List Stmt := match PySem.Challenge.pw_pf0276_01.main.body.getLast? with
  | some (Stmt.FunctionDef _ _ b _ _ _ _ _ _ _) => b
  | _ => []
def turnBody : List Stmt := match lawBody[4]? with
  | some (Stmt.For _ _ b _ _) => b
  | _ => []
def turnSt (k : Nat) : Stmt := (turnBody[k]?).getD (.Pass default)
end Mine
end
section
open PySem PySem.W PyProof.Rows PySem.Calls
namespace Mine
set_option genInjectivity false
set_option genSizeOfSpec false
set_option genSizeOf false
structure Fx where
  (ac dc fpw c1 acw fch c2 as_ ds ap dP ak ah dh ahc aw dw ao pt : Addr)
  (es eh : List DictEntry)
  (ns nk nh nhc no : Nat)
  (ln1 ln2 qn1 qn2 : Str)
  (pa1 pa2 : Arguments)
  (b1 b2 : Expr)
  (sc1 sc2 : Scope)
  (cl1 cl2 : List (Str × Addr))
  (pm1 pm2 ct1 ct2 : Value)
  (oc1 oc2 ocw : Obj)
  (ps : Array Value)
structure Ch where
  (ec eP ew : List DictEntry)
  (nc nP nw nwc na : Nat)
  (awc aa : Addr)
  (vs : List Value)
  (bs : List (Array UInt8))
inductive Ph
  | fresh
  | tried (b : Bool)
  | proven
  | home
def CL (x : Fx) (c : Ch) : List (Addr × Obj) :=
  [(x.ac, instObj 449 x.dc), (x.dc, dictOf c.ec c.nc), (x.fpw, kla_obj x.ln1 x.qn1 x.pa1 x.b1 x.sc1 x.cl1 x.pm1 x.c1 x.ct1), (x.c1, x.oc1), (x.acw, x.ocw),
   (x.fch, kla_obj x.ln2 x.qn2 x.pa2 x.b2 x.sc2 x.cl2 x.pm2 x.c2 x.ct2), (x.c2, x.oc2), (x.as_, instObj 449 x.ds), (x.ds, dictOf x.es x.ns),
   (x.ap, instObj 282 x.dP), (x.dP, dictOf c.eP c.nP), (x.ak, listOf #[.ref x.ah, .ref x.aw] x.nk), (x.ah, instObj 167 x.dh), (x.dh, dictOf x.eh x.nh), (x.ahc, listOf #[] x.nhc),
   (x.aw, instObj 167 x.dw), (x.dw, dictOf c.ew c.nw), (c.awc, listOf c.vs.toArray c.nwc), (c.aa, listOf #[] c.na), (x.ao, listOf #[] x.no), (x.pt, tabObj x.ps)]
/-- the addresses that no turn changes -/
def fixA (x : Fx) : List Addr := [x.ac, x.dc, x.fpw, x.c1, x.acw, x.fch, x.c2, x.as_, x.ds, x.ap, x.dP, x.ak, x.ah, x.dh, x.ahc, x.aw, x.dw, x.ao, x.pt]
theorem cl_adr (x : Fx) (c : Ch) : ∀ y ∈ CL x c, y.1 ∈ fixA x ∨ y.1 = c.awc ∨ y.1 = c.aa := by
  intro y hy
  have h : (CL x c).map (·.1) = [x.ac, x.dc, x.fpw, x.c1, x.acw, x.fch, x.c2, x.as_, x.ds, x.ap, x.dP, x.ak, x.ah, x.dh, x.ahc, x.aw, x.dw, c.awc, c.aa, x.ao, x.pt] := rfl
  have h1 := List.mem_map_of_mem (f := (·.1)) hy
  rw [h] at h1
  have hp : List.Perm ([x.ac, x.dc, x.fpw, x.c1, x.acw, x.fch, x.c2, x.as_, x.ds, x.ap, x.dP, x.ak, x.ah, x.dh, x.ahc, x.aw, x.dw] ++ ([c.awc, c.aa] ++ [x.ao, x.pt])) ([x.ac, x.dc, x.fpw, x.c1, x.acw, x.fch, x.c2, x.as_, x.ds, x.ap, x.dP, x.ak, x.ah, x.dh, x.ahc, x.aw, x.dw] ++ ([x.ao, x.pt] ++ [c.awc, c.aa])) := List.Perm.append_left _ List.perm_append_comm
  have h2 := hp.mem_iff.mp h1
  rw [← List.append_assoc] at h2
  rcases List.mem_append.mp h2 with h3 | h3
  · exact Or.inl h3
  · rcases List.mem_cons.mp h3 with e | h4
    · exact Or.inr (Or.inl e)
    · exact Or.inr (Or.inr (List.mem_singleton.mp h4))
theorem fix_adr (x : Fx) (c : Ch) : ∀ a ∈ fixA x, ∃ y ∈ CL x c, y.1 = a := by
  intro a ha
  have h : (CL x c).map (·.1) = [x.ac, x.dc, x.fpw, x.c1, x.acw, x.fch, x.c2, x.as_, x.ds, x.ap, x.dP, x.ak, x.ah, x.dh, x.ahc, x.aw, x.dw, c.awc, c.aa, x.ao, x.pt] := rfl
  have h1 : a ∈ (CL x c).map (·.1) := by
    rw [h]
    have h3 : a ∈ [x.ac, x.dc, x.fpw, x.c1, x.acw, x.fch, x.c2, x.as_, x.ds, x.ap, x.dP, x.ak, x.ah, x.dh, x.ahc, x.aw, x.dw] ++ [x.ao, x.pt] := ha
    rcases List.mem_append.mp h3 with h4 | h4
    · exact List.mem_append_left [c.awc, c.aa, x.ao, x.pt] h4
    · exact List.mem_append_right [x.ac, x.dc, x.fpw, x.c1, x.acw, x.fch, x.c2, x.as_, x.ds, x.ap, x.dP, x.ak, x.ah, x.dh, x.ahc, x.aw, x.dw] (.tail _ (.tail _ h4))
  obtain ⟨y, hy, e⟩ := List.mem_map.mp h1
  exact ⟨y, hy, e⟩
/-- no address of the one is in the other -/
def OffAll (l r : List (Addr × Obj)) : Prop := ∀ y ∈ l, ∀ q ∈ r, y.1 ≠ q.1
theorem OffAll.mono {l r r' : List (Addr × Obj)} (h : OffAll l r) (hr : ∀ q ∈ r', q ∈ r) : OffAll l r' := fun y hy q hq => h y hy q (hr q hq)
theorem cl_off {x : Fx} {c c' : Ch} {r : List (Addr × Obj)} (h : ∀ q ∈ r, q.1 ∉ (CL x c).map (·.1)) (hw : ∀ q ∈ r, c'.awc ≠ q.1) (ha : ∀ q ∈ r, c'.aa ≠ q.1) : OffAll (CL x c') r := by
  intro y hy q hq e
  rcases cl_adr x c' y hy with h1 | h1 | h1
  · obtain ⟨z, hz, ez⟩ := fix_adr x c y.1 h1
    exact h q hq (by rw [← e, ← ez]; exact List.mem_map_of_mem hz)
  · exact hw q hq (h1 ▸ e)
  · exact ha q hq (h1 ▸ e)
/-! a ledger cut by a mask -/
def sel : List Bool → List (Addr × Obj) → List (Addr × Obj)
  | b :: m, y :: l => if b then y :: sel m l else sel m l
  | _, _ => []
def nsel : List Bool → List (Addr × Obj) → List (Addr × Obj)
  | b :: m, y :: l => if b then nsel m l else y :: nsel m l
  | _, l => l
theorem sel_sub : ∀ (m : List Bool) (l : List (Addr × Obj)), ∀ q ∈ sel m l, q ∈ l
  | [], [], q, h => by simp [sel] at h
  | [], _ :: _, q, h => by simp [sel] at h
  | _ :: _, [], q, h => by simp [sel] at h
  | b :: m, y :: l, q, h => by
    cases b with
    | true =>
      simp only [sel, if_true] at h
      rcases List.mem_cons.mp h with rfl | h
      · exact .head _
      · exact .tail _ (sel_sub m l q h)
    | false => simp only [sel, Bool.false_eq_true, if_false] at h; exact .tail _ (sel_sub m l q h)
theorem nsel_sub : ∀ (m : List Bool) (l : List (Addr × Obj)), ∀ q ∈ nsel m l, q ∈ l
  | [], [], q, h => h
  | [], _ :: _, q, h => h
  | _ :: _, [], q, h => h
  | b :: m, y :: l, q, h => by
    cases b with
    | false =>
      simp only [nsel, Bool.false_eq_true, if_false] at h
      rcases List.mem_cons.mp h with rfl | h
      · exact .head _
      · exact .tail _ (nsel_sub m l q h)
    | true => simp only [nsel, if_true] at h; exact .tail _ (nsel_sub m l q h)
theorem sel_apart : ∀ (m : List Bool) (l : List (Addr × Obj)), (l.map (·.1)).Nodup → ∀ q ∈ nsel m l, ∀ p ∈ sel m l, p.1 ≠ q.1
  | [], [], _, q, h, p, hp => by simp [sel] at hp
  | [], _ :: _, _, q, h, p, hp => by simp [sel] at hp
  | _ :: _, [], _, q, h, p, hp => by simp [sel] at hp
  | b :: m, y :: l, nd, q, h, p, hp => by
    rw [List.map_cons, List.nodup_cons] at nd
    cases b with
    | true =>
      simp only [sel, nsel, if_true] at h hp
      rcases List.mem_cons.mp hp with rfl | hp
      · intro e
        exact nd.1 (e ▸ List.mem_map_of_mem (nsel_sub m l q h))
      · exact sel_apart m l nd.2 q h p hp
    | false =>
      simp only [sel, nsel, Bool.false_eq_true, if_false] at h hp
      rcases List.mem_cons.mp h with rfl | h
      · intro e
        exact nd.1 (e ▸ List.mem_map_of_mem (sel_sub m l p hp))
      · exact sel_apart m l nd.2 q h p hp
/-- a part of a ledger whose own part is cut by a mask -/
theorem Part.mask {l led led' rest : List (Addr × Obj)} (m : List Bool) (nd : (l.map (·.1)).Nodup) (apart : ∀ q ∈ rest, q.1 ∉ l.map (·.1)) (hl : ∀ p ∈ led, p ∈ sel m l) (hr : ∀ q ∈ led', q ∈ nsel m l) : Part (l ++ rest) led (led' ++ rest) := by
  refine ⟨fun q hq => ?_, fun q hq hm => ?_⟩
  · rcases List.mem_append.mp hq with hq | hq
    · exact List.mem_append_left _ (nsel_sub m l q (hr q hq))
    · exact List.mem_append_right _ hq
  · obtain ⟨p, hp, e⟩ := List.mem_map.mp hm
    rcases List.mem_append.mp hq with hq | hq
    · exact sel_apart m l nd q (hr q hq) p (hl p hp) e
    · exact apart q hq (e ▸ List.mem_map_of_mem (sel_sub m l p (hl p hp)))
theorem Part.tail {led l rest : List (Addr × Obj)} (S : ∀ p ∈ led, p ∈ l) (apart : ∀ q ∈ rest, q.1 ∉ l.map (·.1)) : Part rest led rest :=
  ⟨fun _ h => h, fun q hq hm => by obtain ⟨p, hp, e⟩ := List.mem_map.mp hm; exact apart q hq (e ▸ List.mem_map_of_mem (S p hp))⟩
theorem fr_ps {h₀ h : Heap} {L : Addr} {m : Str → Option Value} {ps : List (Str × Value)} (hp : ∀ p ∈ ps, m p.1 = some p.2) (F : Fr h₀ L h m) : Fr h₀ L h (kstB m ps) := by
  have e : kstB m ps = m := funext fun z => kstB_eq hp fun _ => rfl
  rw [e]; exact F
def chals (n : Nat) : List (Array UInt8) := (List.range n).map chal
theorem chals_succ (n : Nat) : chals (n + 1) = chals n ++ [chal n] := by simp [chals, List.range_succ]
theorem chals_len (n : Nat) : (chals n).length = n := by simp [chals]
abbrev Str' (s : String) (t : Tok) : Value := .str (Str.ofString s) t
/-- what is so at all times of the conn's world -/
structure CF (w : World) (wait : Int) (x : Fx) (c : Ch) (n : Nat) : Prop where
  aC : AbsD c.ec (40 + n)
  aS : AbsD x.es 60
  aP : AbsD c.eP 20
  aH : AbsD x.eh 20
  aW : AbsD c.ew 20
  hv : BAre c.vs c.bs
  hn : n ≤ 20
  hvl : c.vs.length ≤ 50
  paths : getL "paths" c.ec = some (some (.ref x.ap))
  shake : getL "shake" c.ec = some (some (.ref x.as_))
  challenged : ∃ t, getL "challenged" c.ec = some (some (.int (n : Int) t))
  probe : getL "probe_wait" c.ec = some (some (.ref x.fpw))
  choose : getL "choose" c.ec = some (some (.ref x.fch))
  owed : getL "owed" c.ec = some (some (.ref x.ao))
  complete : getL "is_complete" x.es = some (some (.bool true))
  known : getL "known" c.eP = some (some (.ref x.ak))
  answers : getL "answers" c.eP = some (some (.ref c.aa))
  mwc : getL "wants_challenge" c.eP = some none
  mol : getL "on_challenge_lost" c.eP = some none
  mtr : getL "take_response" c.eP = some none
  mnt : getL "next_time" c.eP = some none
  mot : getL "on_time" c.eP = some none
  haddress : ∃ t, getL "address" x.eh = some (some (.str (Str.ofString "home") t))
  hstate : ∃ t, getL "state" x.eh = some (some (.str (Str.ofString "proven") t))
  hfree : getL "is_free" x.eh = some (some (.bool true))
  hchal : getL "challenges" x.eh = some (some (.ref x.ahc))
  hdead : getL "deadline" x.eh = some (some .none)
  his : getL "is_proven" x.eh = some none
  waddress : ∃ t, getL "address" c.ew = some (some (.str (Str.ofString "away") t))
  wchal : getL "challenges" c.ew = some (some (.ref c.awc))
  wprove : getL "prove" c.ew = some none
  wfail : getL "fail" c.ew = some none
  wchallenge : getL "challenge" c.ew = some none
  wis : getL "is_proven" c.ew = some none
  hPr : CallsTo w x.fpw [(x.fpw, kla_obj x.ln1 x.qn1 x.pa1 x.b1 x.sc1 x.cl1 x.pm1 x.c1 x.ct1), (x.c1, x.oc1), (x.acw, x.ocw)] [] (fun t => .int wait t)
  hCh : ∀ (k : Nat) (t1 t2 t3 : Tok), k ≤ 60 → CallsTo w x.fch [(x.fch, kla_obj x.ln2 x.qn2 x.pa2 x.b2 x.sc2 x.cl2 x.pm2 x.c2 x.ct2), (x.c2, x.oc2)] [.str (Str.ofString "challenge") t1, .int (k : Int) t2, .int 8 t3] (fun t => .bytes (chal k) t)
  ho : @LT.lt Nat _ x.pt x.acw ∧ @LT.lt Nat _ x.acw x.dc ∧ @LT.lt Nat _ x.dc x.ac ∧ @LT.lt Nat _ x.ac x.ds ∧ @LT.lt Nat _ x.ds x.as_ ∧ @LT.lt Nat _ x.as_ x.dP ∧ @LT.lt Nat _ x.dP x.ap ∧ @LT.lt Nat _ x.ap x.dh ∧ @LT.lt Nat _ x.dh x.ah ∧ @LT.lt Nat _ x.ah x.ahc ∧ @LT.lt Nat _ x.ahc x.ak ∧ @LT.lt Nat _ x.ak x.c1 ∧ @LT.lt Nat _ x.c1 x.fpw ∧ @LT.lt Nat _ x.fpw x.ao ∧ @LT.lt Nat _ x.ao x.c2 ∧ @LT.lt Nat _ x.c2 x.fch ∧ @LT.lt Nat _ x.fch x.dw ∧ @LT.lt Nat _ x.dw x.aw ∧ @LT.lt Nat _ x.aw c.awc
  haa : ∀ q ∈ fixA x ++ [c.awc], q ≠ c.aa
/-- the addresses in their order -/
def srt (x : Fx) (z : Addr) : List Nat := [x.pt, x.acw, x.dc, x.ac, x.ds, x.as_, x.dP, x.ap, x.dh, x.ah, x.ahc, x.ak, x.c1, x.fpw, x.ao, x.c2, x.fch, x.dw, x.aw, z]
def upw : Nat → List Nat → Prop
  | _, [] => True
  | a, b :: l => a < b ∧ upw b l
theorem upw_all : ∀ {l : List Nat} {a : Nat}, upw a l → (∀ b ∈ l, a < b) ∧ l.Pairwise (· < ·)
  | [], _, _ => ⟨fun _ h => (List.not_mem_nil h).elim, .nil⟩
  | b :: l, a, h => by
    obtain ⟨h1, h2⟩ := upw_all h.2
    refine ⟨fun c hc => ?_, .cons h1 h2⟩
    rcases List.mem_cons.mp hc with rfl | hc
    · exact h.1
    · exact Nat.lt_trans h.1 (h1 c hc)
theorem srt_up {x : Fx} {z : Addr} (ho : @LT.lt Nat _ x.pt x.acw ∧ @LT.lt Nat _ x.acw x.dc ∧ @LT.lt Nat _ x.dc x.ac ∧ @LT.lt Nat _ x.ac x.ds ∧ @LT.lt Nat _ x.ds x.as_ ∧ @LT.lt Nat _ x.as_ x.dP ∧ @LT.lt Nat _ x.dP x.ap ∧ @LT.lt Nat _ x.ap x.dh ∧ @LT.lt Nat _ x.dh x.ah ∧ @LT.lt Nat _ x.ah x.ahc ∧ @LT.lt Nat _ x.ahc x.ak ∧ @LT.lt Nat _ x.ak x.c1 ∧ @LT.lt Nat _ x.c1 x.fpw ∧ @LT.lt Nat _ x.fpw x.ao ∧ @LT.lt Nat _ x.ao x.c2 ∧ @LT.lt Nat _ x.c2 x.fch ∧ @LT.lt Nat _ x.fch x.dw ∧ @LT.lt Nat _ x.dw x.aw ∧ @LT.lt Nat _ x.aw z) : (srt x z).Pairwise (· < ·) :=
  have h : upw x.pt [x.acw, x.dc, x.ac, x.ds, x.as_, x.dP, x.ap, x.dh, x.ah, x.ahc, x.ak, x.c1, x.fpw, x.ao, x.c2, x.fch, x.dw, x.aw, z] := by
    simp only [upw, and_true]; exact ho
  .cons (upw_all h).1 (upw_all h).2
def fixI : List Nat := [3, 2, 13, 12, 1, 16, 15, 5, 4, 7, 6, 11, 9, 8, 10, 18, 17, 14, 0]
theorem fixA_map (x : Fx) (z : Addr) : fixA x = fixI.map (fun i => (srt x z).getD i 0) := rfl
theorem getD_lt {l : List Nat} (h : l.Pairwise (· < ·)) {i j : Nat} (hij : i < j) (hj : j < l.length) : l.getD i 0 < l.getD j 0 := by
  have hi := Nat.lt_trans hij hj
  rw [List.getD_eq_getElem?_getD, List.getD_eq_getElem?_getD, List.getElem?_eq_getElem hi, List.getElem?_eq_getElem hj]
  exact List.pairwise_iff_getElem.mp h i j _ _ hij
theorem fix_lt {w : World} {wait : Int} {x : Fx} {c : Ch} {n : Nat} (f : CF w wait x c n) : ∀ a ∈ fixA x, @LT.lt Nat _ a c.awc := by
  intro a ha
  rw [fixA_map x c.awc] at ha
  obtain ⟨i, hi, rfl⟩ := List.mem_map.mp ha
  exact getD_lt (j := 19) (srt_up f.ho) ((by decide : ∀ i ∈ fixI, i < 19) i hi) (Nat.lt_succ_self 19)
theorem haa_of {w : World} {wait : Int} {x : Fx} {c : Ch} {n : Nat} (f : CF w wait x c n) {a' w' : Addr} (h : @LT.lt Nat _ c.awc a') (hne : w' ≠ a') : ∀ q ∈ fixA x ++ [w'], q ≠ a' := by
  intro q hq e
  rcases List.mem_append.mp hq with hq | hq
  · have := fix_lt f q hq
    rw [e] at this
    exact Nat.lt_asymm h this
  · rw [List.mem_singleton.mp hq] at e; exact hne e
theorem haa_awc {w : World} {wait : Int} {x : Fx} {c : Ch} {n : Nat} (f : CF w wait x c n) {w' : Addr} (hne : w' ≠ c.aa) : ∀ q ∈ fixA x ++ [w'], q ≠ c.aa := by
  intro q hq e
  rcases List.mem_append.mp hq with hq | hq
  · exact f.haa q (List.mem_append_left _ hq) e
  · rw [List.mem_singleton.mp hq] at e; exact hne e
theorem fix_nd {x : Fx} {c : Ch} {w : World} {wait : Int} {n : Nat} (f : CF w wait x c n) : (fixA x).Nodup := by
  rw [fixA_map x c.awc]
  refine List.pairwise_map.mpr (List.Pairwise.imp_of_mem (fun {i j} hi hj hne => ?_) (by decide : fixI.Nodup))
  have h19 : ∀ i ∈ fixI, i < 20 := by decide
  rcases Nat.lt_or_gt_of_ne hne with h | h
  · exact Nat.ne_of_lt (getD_lt (srt_up f.ho) h (h19 j hj))
  · exact Nat.ne_of_gt (getD_lt (srt_up f.ho) h (h19 i hi))
theorem cl_nd {w : World} {wait : Int} {x : Fx} {c : Ch} {n : Nat} (f : CF w wait x c n) : ((CL x c).map (·.1)).Nodup := by
  have h : (CL x c).map (·.1) = (fixA x).take 17 ++ (c.awc :: c.aa :: [x.ao, x.pt]) := rfl
  have h2 : fixA x = (fixA x).take 17 ++ [x.ao, x.pt] := rfl
  have nd := fix_nd f
  have lt := fix_lt f
  have na := f.haa
  rw [h]
  have hw : ∀ a ∈ fixA x, a ≠ c.awc := fun a ha => Nat.ne_of_lt (lt a ha)
  have hp : (c.awc :: c.aa :: fixA x).Nodup := by
    refine List.nodup_cons.mpr ⟨fun hm => ?_, List.nodup_cons.mpr ⟨fun hm => na _ (List.mem_append_left _ hm) rfl, nd⟩⟩
    rcases List.mem_cons.mp hm with e | hm
    · exact na _ (List.mem_append_right _ (.head _)) e
    · exact hw _ hm rfl
  rw [h2] at hp
  refine (List.Perm.nodup_iff ?_).mp hp
  have := @List.perm_append_comm _ [c.awc, c.aa] ((fixA x).take 17)
  exact (this.append_right [x.ao, x.pt]).trans (by simp)
theorem cons_nd {l : List (Addr × Obj)} {a : Addr} {o : Obj} (nd : (l.map (·.1)).Nodup) (h : ∀ y ∈ l, y.1 ≠ a) : (((a, o) :: l).map (·.1)).Nodup := by
  rw [List.map_cons, List.nodup_cons]
  exact ⟨fun hm => by obtain ⟨y, hy, e⟩ := List.mem_map.mp hm; exact h y hy e, nd⟩
theorem cl_lt {w : World} {wait : Int} {x : Fx} {c : Ch} {n : Nat} (f : CF w wait x c n) {z : Addr} (h1 : @LT.lt Nat _ c.awc z) (h2 : c.aa ≠ z) : ∀ y ∈ CL x c, y.1 ≠ z := by
  intro y hy e
  rcases cl_adr x c y hy with h | h | h
  · have := fix_lt f _ h
    rw [e] at this
    exact Nat.lt_asymm this h1
  · rw [h] at e; rw [e] at h1; exact Nat.lt_irrefl _ h1
  · exact h2 (h ▸ e)
/-- what is so in a phase -/
def PhF (wait : Int) (x : Fx) (c : Ch) (n : Nat) : Ph → Prop
  | .fresh => (∃ t, getL "state" c.ew = some (some (.str (Str.ofString "unproven") t))) ∧ getL "wants_more" c.ew = some (some (.bool false)) ∧ getL "deadline" c.ew = some (some .none) ∧ getL "is_free" c.ew = some (some (.bool false)) ∧ getL "active" c.eP = some (some (.ref x.aw)) ∧ getL "last_proven" c.eP = some (some (.ref x.ah)) ∧ n = 0
  | .tried b => (∃ t, getL "state" c.ew = some (some (.str (Str.ofString "trying") t))) ∧ getL "wants_more" c.ew = some (some (.bool b)) ∧ (∃ t, getL "deadline" c.ew = some (some (.int (3 * wait) t))) ∧ getL "is_free" c.ew = some (some (.bool false)) ∧ getL "active" c.eP = some (some (.ref x.aw)) ∧ getL "last_proven" c.eP = some (some (.ref x.ah)) ∧ c.bs = chals n
  | .proven => (∃ t, getL "state" c.ew = some (some (.str (Str.ofString "proven") t))) ∧ getL "deadline" c.ew = some (some .none) ∧ getL "active" c.eP = some (some (.ref x.aw)) ∧ c.bs = []
  | .home => (∃ t, getL "state" c.ew = some (some (.str (Str.ofString "failed") t))) ∧ getL "deadline" c.ew = some (some .none) ∧ getL "active" c.eP = some (some (.ref x.ah)) ∧ c.bs = []
end Mine
end
section
open PySem PySem.W PyProof.Rows PySem.Calls
namespace Mine
theorem gOther {es : List DictEntry} {k : Nat} (a : AbsD es k) {name name' : Str} (hn : (name == name') = false) {hsh : Int} {t : Tok} {v : Value} {r : Option (Option Value)} (g : getL name' es = r) : getL name' (putL name hsh (.str name t) v es) = r :=
  (getL_other a hn hsh t v).trans g
theorem OffAll.cons {e : Addr × Obj} {l r : List (Addr × Obj)} (h : ∀ q ∈ r, e.1 ≠ q.1) (k : OffAll l r) : OffAll (e :: l) r := by
  intro y hy
  rcases List.mem_cons.mp hy with rfl | hy
  · exact h
  · exact k y hy
theorem apart_tl {l r : List (Addr × Obj)} {e : Addr × Obj} (h : ∀ q ∈ r, q.1 ∉ (e :: l).map (·.1)) : ∀ q ∈ r, q.1 ∉ l.map (·.1) := fun q hq hm => h q hq (.tail _ hm)
theorem apart_ne {l r : List (Addr × Obj)} (h : ∀ q ∈ r, q.1 ∉ l.map (·.1)) {y : Addr × Obj} (hy : y ∈ l) : ∀ q ∈ r, y.1 ≠ q.1 := fun q hq e => h q hq (e ▸ List.mem_map_of_mem hy)
theorem apart_off {l r : List (Addr × Obj)} (h : ∀ q ∈ r, q.1 ∉ l.map (·.1)) : OffAll l r := fun _ hy => apart_ne h hy
theorem off_apart {l r : List (Addr × Obj)} (h : OffAll l r) : ∀ q ∈ r, q.1 ∉ l.map (·.1) := fun q hq hm => by
  obtain ⟨y, hy, e⟩ := List.mem_map.mp hm
  exact h y hy q hq e
section
variable {w : World} {wait : Int} {x : Fx} {c : Ch} {n : Nat}
theorem fix_le (f : CF w wait x c n) : ∀ a ∈ fixA x, @LE.le Nat _ a x.aw := by
  have ho := f.ho
  clear f
  simp only [fixA, List.forall_mem_cons]
  refine ⟨?_, ?_, ?_, ?_, ?_, ?_, ?_, ?_, ?_, ?_, ?_, ?_, ?_, ?_, ?_, ?_, ?_, ?_, ?_, List.forall_mem_nil _⟩ <;> omega
theorem cl_ne (f : CF w wait x c n) {c' : Ch} {z : Addr} (h0 : @LT.lt Nat _ x.aw z) (h1 : c'.awc ≠ z) (h2 : c'.aa ≠ z) : ∀ y ∈ CL x c', y.1 ≠ z := by
  intro y hy e
  rcases cl_adr x c' y hy with h | h | h
  · have := fix_le f _ h
    rw [e] at this
    exact absurd (Nat.lt_of_lt_of_le h0 this) (Nat.lt_irrefl _)
  · exact h1 (h ▸ e)
  · exact h2 (h ▸ e)
theorem po_ord (f : CF w wait x c n) : @LT.lt Nat _ x.dP x.ap ∧ @LT.lt Nat _ x.ap x.dh ∧ @LT.lt Nat _ x.dh x.ah ∧ @LT.lt Nat _ x.ah x.ahc ∧ @LT.lt Nat _ x.ahc x.ak ∧ @LT.lt Nat _ x.ak x.dw ∧ @LT.lt Nat _ x.dw x.aw ∧ @LT.lt Nat _ x.aw c.awc := by
  have ho := f.ho
  clear f
  refine ⟨?_, ?_, ?_, ?_, ?_, ?_, ?_, ?_⟩ <;> omega
theorem lo_ord (f : CF w wait x c n) {z : Addr} (h : @LT.lt Nat _ c.awc z) : @LT.lt Nat _ x.dc x.ac ∧ @LT.lt Nat _ x.ac x.dP ∧ @LT.lt Nat _ x.dP x.ap ∧ @LT.lt Nat _ x.ap x.dh ∧ @LT.lt Nat _ x.dh x.ah ∧ @LT.lt Nat _ x.ah x.ahc ∧ @LT.lt Nat _ x.ahc x.ak ∧ @LT.lt Nat _ x.ak x.dw ∧ @LT.lt Nat _ x.dw x.aw ∧ @LT.lt Nat _ x.aw c.awc ∧ @LT.lt Nat _ c.awc z := by
  have ho := f.ho
  clear f
  refine ⟨?_, ?_, ?_, ?_, ?_, ?_, ?_, ?_, ?_, ?_, ?_⟩ <;> omega
theorem fo_ord (f : CF w wait x c n) : @LT.lt Nat _ x.acw x.dc ∧ @LT.lt Nat _ x.dc x.ac ∧ @LT.lt Nat _ x.ac x.ds ∧ @LT.lt Nat _ x.ds x.as_ ∧ @LT.lt Nat _ x.as_ x.dP ∧ @LT.lt Nat _ x.dP x.ap ∧ @LT.lt Nat _ x.ap x.dh ∧ @LT.lt Nat _ x.dh x.ah ∧ @LT.lt Nat _ x.ah x.ahc ∧ @LT.lt Nat _ x.ahc x.ak ∧ @LT.lt Nat _ x.ak x.c1 ∧ @LT.lt Nat _ x.c1 x.fpw ∧ @LT.lt Nat _ x.fpw x.c2 ∧ @LT.lt Nat _ x.c2 x.fch ∧ @LT.lt Nat _ x.fch x.dw ∧ @LT.lt Nat _ x.dw x.aw ∧ @LT.lt Nat _ x.aw c.awc := by
  have ho := f.ho
  clear f
  refine ⟨?_, ?_, ?_, ?_, ?_, ?_, ?_, ?_, ?_, ?_, ?_, ?_, ?_, ?_, ?_, ?_, ?_⟩ <;> omega
theorem haa4 (f : CF w wait x c n) : @Ne Nat c.aa x.dP ∧ @Ne Nat c.aa x.dc ∧ @Ne Nat c.aa x.dw ∧ @Ne Nat c.aa c.awc :=
  ⟨(f.haa _ (by simp [fixA])).symm, (f.haa _ (by simp [fixA])).symm, (f.haa _ (by simp [fixA])).symm, (f.haa _ (by simp)).symm⟩
theorem ho_awc (f : CF w wait x c n) {z : Addr} (h : @LT.lt Nat _ x.aw z) : @LT.lt Nat _ x.pt x.acw ∧ @LT.lt Nat _ x.acw x.dc ∧ @LT.lt Nat _ x.dc x.ac ∧ @LT.lt Nat _ x.ac x.ds ∧ @LT.lt Nat _ x.ds x.as_ ∧ @LT.lt Nat _ x.as_ x.dP ∧ @LT.lt Nat _ x.dP x.ap ∧ @LT.lt Nat _ x.ap x.dh ∧ @LT.lt Nat _ x.dh x.ah ∧ @LT.lt Nat _ x.ah x.ahc ∧ @LT.lt Nat _ x.ahc x.ak ∧ @LT.lt Nat _ x.ak x.c1 ∧ @LT.lt Nat _ x.c1 x.fpw ∧ @LT.lt Nat _ x.fpw x.ao ∧ @LT.lt Nat _ x.ao x.c2 ∧ @LT.lt Nat _ x.c2 x.fch ∧ @LT.lt Nat _ x.fch x.dw ∧ @LT.lt Nat _ x.dw x.aw ∧ @LT.lt Nat _ x.aw z := by
  have ho := f.ho
  clear f
  refine ⟨?_, ?_, ?_, ?_, ?_, ?_, ?_, ?_, ?_, ?_, ?_, ?_, ?_, ?_, ?_, ?_, ?_, ?_, ?_⟩ <;> omega
end
end Mine
end
section
open PySem PySem.W PyProof.Rows PySem.Calls
namespace Mine
theorem Part.app {led l rest : List (Addr × Obj)} (S : ∀ p ∈ l, p ∈ led) (off : OffAll led rest) : Part (l ++ rest) led rest :=
  ⟨fun _ h => List.mem_append_right _ h, off_apart off⟩
theorem Part.rest {led rest : List (Addr × Obj)} (off : OffAll led rest) : Part rest led rest := ⟨fun _ h => h, off_apart off⟩
theorem nc {h₀ h : Heap} {L : Addr} {e : Addr × Obj} {l l' : List (Addr × Obj)} (N : News h₀ L h l) (he : e ∈ l) (N' : News h₀ L h l') : News h₀ L h (e :: l') := fun q hq => by
  rcases List.mem_cons.mp hq with rfl | hq
  · exact N _ he
  · exact N' q hq
theorem OffAll.nil {r : List (Addr × Obj)} : OffAll [] r := fun _ h => (List.not_mem_nil h).elim
theorem OffAll.tl {e : Addr × Obj} {l r : List (Addr × Obj)} (h : OffAll (e :: l) r) : OffAll l r := fun y hy => h y (.tail _ hy)
theorem OffAll.hd {e : Addr × Obj} {l r : List (Addr × Obj)} (h : OffAll (e :: l) r) : ∀ q ∈ r, e.1 ≠ q.1 := h e (.head _)
theorem OffAll.rtl {e : Addr × Obj} {l r : List (Addr × Obj)} (h : OffAll l (e :: r)) : OffAll l r := fun y hy q hq => h y hy q (.tail _ hq)
theorem OffAll.rhd {e : Addr × Obj} {l r : List (Addr × Obj)} (h : OffAll l (e :: r)) : ∀ y ∈ l, y.1 ≠ e.1 := fun y hy => h y hy e (.head _)
theorem OffAll.rcons {e : Addr × Obj} {l r : List (Addr × Obj)} (h : ∀ y ∈ l, y.1 ≠ e.1) (k : OffAll l r) : OffAll l (e :: r) := fun y hy q hq => by
  rcases List.mem_cons.mp hq with rfl | hq
  · exact h y hy
  · exact k y hy q hq
theorem OffAll.rnil {l : List (Addr × Obj)} : OffAll l [] := fun _ _ _ h => (List.not_mem_nil h).elim
section
variable {prog : Program} {w : World} {A : Around} {E : Value → Shared → Prop} {s : Shared} {h₀ : Heap} {L : Addr} {m : Str → Option Value} {news : List (Addr × Obj)}
theorem bytes_rep {l : Addr} {c k : Nat} {v : Int} {tv : Tok} {Q : Value → Shared → Prop} (F : Fr h₀ L s.heap m) (N : News h₀ L s.heap news) (hm : (l, listOf (List.replicate (Int.toNat 8) [Value.int v tv]).flatten.toArray c) ∈ news) (hv : v = 40 + (k : Int)) (hk : k ≤ 60) (hh : A.handled = none)
    (h : ∀ h' t k', Fr h₀ L h' m → News h₀ L h' news → Q (.bytes (chal k) t) { s with heap := h', toks := k' }) : wpAny (model prog w) A (call (.type "bytes") [.ref l]) Q E s := by
  subst hv
  have e : (40 + (k : Int)).toNat = 40 + k := by omega
  have hi : IntsAre [Value.int (40 + (k : Int)) tv, Value.int (40 + (k : Int)) tv, Value.int (40 + (k : Int)) tv, Value.int (40 + (k : Int)) tv, Value.int (40 + (k : Int)) tv, Value.int (40 + (k : Int)) tv, Value.int (40 + (k : Int)) tv, Value.int (40 + (k : Int)) tv] [40 + (k : Int), 40 + (k : Int), 40 + (k : Int), 40 + (k : Int), 40 + (k : Int), 40 + (k : Int), 40 + (k : Int), 40 + (k : Int)] := by l_ints
  refine bytes_K (vs := [Value.int (40 + (k : Int)) tv, Value.int (40 + (k : Int)) tv, Value.int (40 + (k : Int)) tv, Value.int (40 + (k : Int)) tv, Value.int (40 + (k : Int)) tv, Value.int (40 + (k : Int)) tv, Value.int (40 + (k : Int)) tv, Value.int (40 + (k : Int)) tv]) F N ⟨_, (N _ hm).1, rfl, c, rfl⟩ hi ?_ ?_ hh fun h' t k' F' N' _ => ?_
  · intro n hn
    simp only [List.mem_cons, List.not_mem_nil, or_false, or_self] at hn
    subst hn
    omega
  · simp only [sizeLine_eq, List.length_cons, List.length_nil]; decide
  · have e2 : (List.map (fun n : Int => n.toNat.toUInt8) [40 + (k : Int), 40 + (k : Int), 40 + (k : Int), 40 + (k : Int), 40 + (k : Int), 40 + (k : Int), 40 + (k : Int), 40 + (k : Int)]).toArray = chal k := by
      simp only [List.map_cons, List.map_nil, e]
      rfl
    rw [e2]
    exact h h' t k' F' N'
end
theorem nw22 {h₀ h : Heap} {L : Addr} {a b c d : Addr × Obj} {r : List (Addr × Obj)} (N : News h₀ L h (a :: b :: c :: d :: r)) : News h₀ L h (a :: b :: r) :=
  nc N (.head _) (nc N (.tail _ (.head _)) fun q hq => N q (.tail _ (.tail _ (.tail _ (.tail _ hq)))))
section
variable {prog : Program} {w : World} {A : Around} {E : Value → Shared → Prop} {s : Shared} {h₀ : Heap} {L : Addr} {m : Str → Option Value} {news : List (Addr × Obj)}
theorem add_led {a b : Addr} {vs us : List Value} {n k : Nat} {Q : Value → Shared → Prop} (F : Fr h₀ L s.heap m) (N : News h₀ L s.heap news) (ha : (a, listOf vs.toArray n) ∈ news) (hb : (b, listOf us.toArray k) ∈ news) (hz : vs.length + us.length ≤ sizeLine)
    (h : ∀ D h', (∀ p ∈ news, @LT.lt Nat _ p.1 D) → Fr h₀ L h' m → News h₀ L h' ((D, listOf (vs ++ us).toArray 0) :: news) → Q (.ref D) { s with heap := h' }) : wpAny (model prog w) A (binaryOp .Add (.ref a) (.ref b)) Q E s :=
  add_lists F N ⟨_, (N _ ha).1, rfl, n, rfl⟩ ⟨_, (N _ hb).1, rfl, k, rfl⟩ (fun h' F' N' => h _ h' (fun p hp => Heap.lt_size (N p hp).1) F' N') hz
theorem bare_sub {D : Addr} {vs : List Value} {bs : List (Array UInt8)} {n : Nat} {k : Int} {u : Tok} {value slice : PySem.Expr} {Q : Value → Shared → Prop} (N : News h₀ L s.heap news) (hm : (D, listOf vs.toArray n) ∈ news) (hb : BAre vs bs) (h0 : 0 ≤ k) (h1 : k < bs.length) (hfit : k < 2 ^ 63)
    (h : ∀ b t, b ∈ bs → Q (.bytes b t) s)
    (hs : subscripted slice false (.ref D) (.int k u) = operate [.ref D, .int k u] (getItem (.ref D) (.int k u)) := by with_unfolding_all rfl) :
    wpAny (model prog w) A (subscriptTail value slice (.ref D) (.int k u)) Q E s := by
  obtain ⟨t, e⟩ := hb.get k.toNat (by omega)
  refine tail_any (PySem.IsL.isList (n := n) (N _ hm).1).typeIs slot_list_getitem.lookup (wpAny_getItem_list (PySem.IsL.isList (n := n) (N _ hm).1) h0 hfit (by simpa using e) (h _ t ?_)) hs
  exact List.getElem_mem _
end
theorem nw1 {h₀ h : Heap} {L : Addr} {a : Addr × Obj} {r : List (Addr × Obj)} (N : News h₀ L h (a :: r)) : News h₀ L h r := fun q hq => N q (.tail _ hq)
theorem nwk {h₀ h : Heap} {L : Addr} {a b : Addr × Obj} {r : List (Addr × Obj)} (N : News h₀ L h (a :: b :: r)) : News h₀ L h (a :: r) := nc N (.head _) fun q hq => N q (.tail _ (.tail _ hq))
theorem nw_b {a b c d e q : Addr × Obj} {r : List (Addr × Obj)} (hq : q ∈ b :: r) : q ∈ a :: b :: c :: d :: e :: r := by
  rcases List.mem_cons.mp hq with rfl | hq
  · exact .tail _ (.head _)
  · exact .tail _ (.tail _ (.tail _ (.tail _ (.tail _ hq))))
open PySem.Spec PyProof.Rows.LCg in
theorem cend {h₀ : Heap} {L I C D : Addr} {m : Str → Option Value} {s₁ : Shared} {oI oC oD : Obj} {S : List (Addr × Obj) → Prop} {rest : Value → List (Addr × Obj) → Prop} {y : Value} {h' : Heap} {tk : Nat} {keep : List (Addr × Obj)}
    (F : Fr h₀ L h' m) (N : News h₀ L h' ((I, oI) :: (C, oC) :: (D, oD) :: keep)) (off : Off3 I C D keep) (hS : S keep) (r : rest y keep) :
    CompEnd h₀ L m s₁ I oI C oC D oD S rest y { s₁ with heap := h', toks := tk } := CompEnd.intro F N keep (fun _ hp => hp) off hS r
theorem nw_b6 {a b c d e f q : Addr × Obj} {r : List (Addr × Obj)} (hq : q ∈ b :: r) : q ∈ a :: b :: c :: d :: e :: f :: r := by
  rcases List.mem_cons.mp hq with rfl | hq
  · exact .tail _ (.head _)
  · exact .tail _ (.tail _ (.tail _ (.tail _ (.tail _ (.tail _ hq)))))
theorem nwd6 {h₀ h : Heap} {L : Addr} {a b c d e f : Addr × Obj} {r : List (Addr × Obj)} (N : News h₀ L h (a :: b :: c :: d :: e :: f :: r)) : News h₀ L h r := fun q hq => N q (.tail _ (.tail _ (.tail _ (.tail _ (.tail _ (.tail _ hq))))))
theorem nw_s4 {h₀ h : Heap} {L : Addr} {a b c d e f : Addr × Obj} {r : List (Addr × Obj)} (N : News h₀ L h (a :: b :: c :: d :: e :: f :: r)) : News h₀ L h (b :: c :: f :: r) :=
  nc N (.tail _ (.head _)) (nc N (.tail _ (.tail _ (.head _))) fun q hq => N q (.tail _ (.tail _ (.tail _ (.tail _ (.tail _ hq))))))
section
variable {h₀ h : Heap} {L : Addr} {a b c d e f : Addr × Obj} {l r : List (Addr × Obj)}
theorem na4 (N : News h₀ L h (a :: b :: c :: d :: (l ++ r))) : News h₀ L h l := fun q hq => N q (.tail _ (.tail _ (.tail _ (.tail _ (List.mem_append_left _ hq)))))
theorem nb4 (N : News h₀ L h (a :: b :: c :: d :: (l ++ r))) : News h₀ L h r := fun q hq => N q (.tail _ (.tail _ (.tail _ (.tail _ (List.mem_append_right _ hq)))))
/-- four in front, one (e), the block -/
theorem na5 (N : News h₀ L h (a :: b :: c :: d :: e :: (l ++ r))) : News h₀ L h l := fun q hq => N q (.tail _ (.tail _ (.tail _ (.tail _ (.tail _ (List.mem_append_left _ hq))))))
theorem nb5 (N : News h₀ L h (a :: b :: c :: d :: e :: (l ++ r))) : News h₀ L h (e :: r) := nc N (.tail _ (.tail _ (.tail _ (.tail _ (.head _))))) fun q hq => N q (.tail _ (.tail _ (.tail _ (.tail _ (.tail _ (List.mem_append_right _ hq))))))
theorem na5e (N : News h₀ L h (a :: b :: c :: d :: e :: (l ++ r))) : News h₀ L h (e :: l) := nc N (.tail _ (.tail _ (.tail _ (.tail _ (.head _))))) (na5 N)
theorem nb5e (N : News h₀ L h (a :: b :: c :: d :: e :: (l ++ r))) : News h₀ L h r := nw1 (nb5 N)
theorem nj (N : News h₀ L h l) (R : News h₀ L h (e :: r)) : News h₀ L h (e :: (l ++ r)) := nc R (.head _) (newsApp N (nw1 R))
theorem nj2 (N : News h₀ L h (e :: l)) (R : News h₀ L h r) : News h₀ L h (e :: (l ++ r)) := nc N (.head _) (newsApp (nw1 N) R)
theorem na2 (N : News h₀ L h (a :: b :: (l ++ r))) : News h₀ L h (a :: l) := nc N (.head _) fun q hq => N q (.tail _ (.tail _ (List.mem_append_left _ hq)))
theorem nb2 (N : News h₀ L h (a :: b :: (l ++ r))) : News h₀ L h (b :: r) := nc N (.tail _ (.head _)) fun q hq => N q (.tail _ (.tail _ (List.mem_append_right _ hq)))
end
theorem eqlt {a b z : Nat} (e : a = b) (h : @LT.lt Nat _ b z) : @LT.lt Nat _ a z := e ▸ h
section
variable {h₀ h : Heap} {L : Addr} {a b c d e f : Addr × Obj} {l r : List (Addr × Obj)}
theorem nj_a (N : News h₀ L h (a :: b :: c :: l)) (R : News h₀ L h (e :: r)) : News h₀ L h (a :: b :: c :: e :: (l ++ r)) :=
  nc N (.head _) (nc N (.tail _ (.head _)) (nc N (.tail _ (.tail _ (.head _))) (nc R (.head _) (newsApp (nw1 (nw1 (nw1 N))) (nw1 R)))))
theorem na_b (N : News h₀ L h (a :: b :: c :: e :: (l ++ r))) : News h₀ L h (a :: l) := nc N (.head _) fun q hq => N q (.tail _ (.tail _ (.tail _ (.tail _ (List.mem_append_left _ hq)))))
theorem nb_b (N : News h₀ L h (a :: b :: c :: e :: (l ++ r))) : News h₀ L h (b :: c :: e :: r) := nc N (.tail _ (.head _)) (nc N (.tail _ (.tail _ (.head _))) (nc N (.tail _ (.tail _ (.tail _ (.head _)))) fun q hq => N q (.tail _ (.tail _ (.tail _ (.tail _ (List.mem_append_right _ hq)))))))
theorem nj_b (N : News h₀ L h (a :: b :: l)) (R : News h₀ L h (c :: d :: e :: r)) : News h₀ L h (a :: d :: e :: (l ++ r)) :=
  nc N (.head _) (nc R (.tail _ (.head _)) (nc R (.tail _ (.tail _ (.head _))) (newsApp (nw1 (nw1 N)) (nw1 (nw1 (nw1 R))))))
theorem na_c (N : News h₀ L h (a :: (l ++ r))) : News h₀ L h (a :: l) := nc N (.head _) fun q hq => N q (.tail _ (List.mem_append_left _ hq))
theorem nb_c (N : News h₀ L h (a :: (l ++ r))) : News h₀ L h r := fun q hq => N q (.tail _ (List.mem_append_right _ hq))
theorem nj_c (N : News h₀ L h (a :: b :: l)) (R : News h₀ L h r) : News h₀ L h (a :: b :: (l ++ r)) := nc N (.head _) (nc N (.tail _ (.head _)) (newsApp (nw1 (nw1 N)) R))
theorem na_d (N : News h₀ L h (a :: b :: (l ++ r))) : News h₀ L h (b :: l) := nc N (.tail _ (.head _)) fun q hq => N q (.tail _ (.tail _ (List.mem_append_left _ hq)))
theorem nb_d (N : News h₀ L h (a :: b :: (l ++ r))) : News h₀ L h (a :: r) := nc N (.head _) fun q hq => N q (.tail _ (.tail _ (List.mem_append_right _ hq)))
theorem nj_d (N : News h₀ L h (a :: b :: l)) (R : News h₀ L h (c :: r)) : News h₀ L h (a :: b :: (l ++ r)) := nc N (.head _) (nc N (.tail _ (.head _)) (newsApp (nw1 (nw1 N)) (nw1 R)))
theorem off_b {x : Fx} {c1 : Ch} (o : OffAll (a :: b :: c :: CL x c1) (e :: r)) (h1 : @LT.lt Nat _ c.1 b.1) (h2 : @LT.lt Nat _ b.1 a.1) (h3 : ∀ y ∈ CL x c1, y.1 ≠ b.1) (h4 : ∀ y ∈ CL x c1, y.1 ≠ c.1) : OffAll (a :: CL x c1) (b :: c :: e :: r) := by
  refine OffAll.rcons (fun y hy => ?_) (OffAll.rcons (fun y hy => ?_) (OffAll.cons o.hd o.tl.tl.tl))
  · rcases List.mem_cons.mp hy with rfl | hy
    · exact Nat.ne_of_gt h2
    · exact h3 y hy
  · rcases List.mem_cons.mp hy with rfl | hy
    · exact Nat.ne_of_gt (Nat.lt_trans h1 h2)
    · exact h4 y hy
theorem off_d {x : Fx} {c1 : Ch} (o : OffAll (a :: b :: CL x c1) r) (h1 : @LT.lt Nat _ b.1 a.1) (h3 : ∀ y ∈ CL x c1, y.1 ≠ a.1) : OffAll (b :: CL x c1) (a :: r) := by
  refine OffAll.rcons (fun y hy => ?_) o.tl
  rcases List.mem_cons.mp hy with rfl | hy
  · exact Nat.ne_of_lt h1
  · exact h3 y hy
theorem offr3 (o : OffAll (a :: b :: l) (c :: d :: e :: r)) : OffAll l r := o.tl.tl.rtl.rtl.rtl
theorem offr1 (o : OffAll (a :: b :: l) (c :: r)) : OffAll l r := o.tl.tl.rtl
end
section
variable {h₀ h : Heap} {L : Addr} {a b c d e f : Addr × Obj} {l r : List (Addr × Obj)}
theorem lt_app1 {D : Nat} (h : AllLt D (l ++ r)) : ∀ q ∈ l, @LT.lt Nat _ q.1 D := fun q hq => kst_ltOf h q (List.mem_append_left _ hq)
theorem lt_app2 {D : Nat} (h : AllLt D (l ++ r)) : ∀ q ∈ r, @LT.lt Nat _ q.1 D := fun q hq => kst_ltOf h q (List.mem_append_right _ hq)
/-- a new tuple in front of the block -/
theorem off_l {x : Fx} {c1 : Ch} (o : OffAll (CL x c1) (e :: r)) (h : @LT.lt Nat _ e.1 a.1 ∧ AllLt a.1 (CL x c1 ++ r)) : OffAll (a :: CL x c1) (e :: r) := by
  obtain ⟨h1, h2⟩ := h
  refine OffAll.cons (fun q hq => ?_) o
  rcases List.mem_cons.mp hq with rfl | hq
  · exact Nat.ne_of_gt h1
  · exact Nat.ne_of_gt (lt_app2 h2 q hq)
theorem ne_l {x : Fx} {c1 : Ch} {D : Nat} {P : Prop} (h2 : P ∧ AllLt D (CL x c1 ++ r)) : ∀ y ∈ CL x c1, y.1 ≠ D := fun y hy => Nat.ne_of_lt (lt_app1 h2.2 y hy)
theorem awc_l {x : Fx} {c1 : Ch} {D : Nat} {P : Prop} (h2 : P ∧ AllLt D (CL x c1 ++ r)) : @LT.lt Nat _ c1.awc D := lt_app1 h2.2 (c1.awc, listOf c1.vs.toArray c1.nwc) (.tail _ (.tail _ (.tail _ (.tail _ (.tail _ (.tail _ (.tail _ (.tail _ (.tail _ (.tail _ (.tail _ (.tail _ (.tail _ (.tail _ (.tail _ (.tail _ (.tail _ (.head _))))))))))))))))))
theorem nj_e (N : News h₀ L h (a :: l)) (R : News h₀ L h r) : News h₀ L h (a :: (l ++ r)) := nc N (.head _) (newsApp (nw1 N) R)
end
theorem off_r {e : Addr × Obj} {l r : List (Addr × Obj)} (o : OffAll (e :: l) r) (h : ∀ y ∈ l, y.1 ≠ e.1) : OffAll l (e :: r) := OffAll.rcons h o.tl
/-- a goal at which the walk stands still: a call that a spec answers -/
structure Stop (P : Prop) : Prop where
  go : P
def stops : Nat → Bool
  | 26 | 67 | 213 | 262 | 274 | 279 | 467 | 474 => true
  | _ => false
theorem stopAt {Mo : Model} {A : Around} {a : Nat} {vs : List Value} {Q E : Value → Shared → Prop} {s : Shared} (_ : stops a = true) (h : Stop (wpAny Mo A (call (.ref a) vs) Q E s)) : wpAny Mo A (call (.ref a) vs) Q E s := h.go
end Mine
end
section
open PySem PySem.W PyProof.Rows PySem.Calls
namespace Mine
/-! the law's locals -/
def lmNames : List Str := ["box", "wait", "went", "now", "is_wanted", "state", "conn"]
structure LM (x : Fx) (wait : Int) (ab awl : Addr) (now : Int) (wb : Bool) (st : Str) (m : Str → Option Value) : Prop where
  box : m "box" = some (.ref ab)
  wait : ∃ q, m "wait" = some (.int wait q)
  went : m "went" = some (.ref awl)
  now : ∃ q, m "now" = some (.int now q)
  isw : m "is_wanted" = some (.bool wb)
  state : ∃ q, m "state" = some (.str st q)
  conn : m "conn" = some (.ref x.ac)
section
variable {x : Fx} {wait : Int} {ab awl : Addr} {now : Int} {wb : Bool} {st : Str} {m : Str → Option Value}
theorem lm_off {k : Str} {v : Value} (hk : k ∉ lmNames) {y : Str} (hy : y ∈ lmNames) : (if y = k then some v else m y) = m y := if_neg fun (e : y = k) => hk (e ▸ hy)
theorem lm_set (h : LM x wait ab awl now wb st m) {k : Str} {v : Value} (hk : k ∉ lmNames) : LM x wait ab awl now wb st (fun y => if y = k then some v else m y) where
  box := (lm_off hk (by decide)).trans h.box
  wait := h.wait.imp fun _ e => (lm_off hk (by decide)).trans e
  went := (lm_off hk (by decide)).trans h.went
  now := h.now.imp fun _ e => (lm_off hk (by decide)).trans e
  isw := (lm_off hk (by decide)).trans h.isw
  state := h.state.imp fun _ e => (lm_off hk (by decide)).trans e
  conn := (lm_off hk (by decide)).trans h.conn
theorem lm_went (h : LM x wait ab awl now wb st m) (a2 : Addr) : LM x wait ab a2 now wb st (fun y => if y = "went" then some (.ref a2) else m y) where
  box := (if_neg (by decide)).trans h.box
  wait := h.wait.imp fun _ e => (if_neg (by decide)).trans e
  went := if_pos rfl
  now := h.now.imp fun _ e => (if_neg (by decide)).trans e
  isw := (if_neg (by decide)).trans h.isw
  state := h.state.imp fun _ e => (if_neg (by decide)).trans e
  conn := (if_neg (by decide)).trans h.conn
theorem lm_isw (h : LM x wait ab awl now wb st m) (b : Bool) : LM x wait ab awl now b st (fun y => if y = "is_wanted" then some (.bool b) else m y) where
  box := (if_neg (by decide)).trans h.box
  wait := h.wait.imp fun _ e => (if_neg (by decide)).trans e
  went := (if_neg (by decide)).trans h.went
  now := h.now.imp fun _ e => (if_neg (by decide)).trans e
  isw := if_pos rfl
  state := h.state.imp fun _ e => (if_neg (by decide)).trans e
  conn := (if_neg (by decide)).trans h.conn
theorem lm_state (h : LM x wait ab awl now wb st m) (s2 : Str) (q : Tok) : LM x wait ab awl now wb s2 (fun y => if y = "state" then some (.str s2 q) else m y) where
  box := (if_neg (by decide)).trans h.box
  wait := h.wait.imp fun _ e => (if_neg (by decide)).trans e
  went := (if_neg (by decide)).trans h.went
  now := h.now.imp fun _ e => (if_neg (by decide)).trans e
  isw := (if_neg (by decide)).trans h.isw
  state := ⟨q, if_pos rfl⟩
  conn := (if_neg (by decide)).trans h.conn
theorem lm_now (h : LM x wait ab awl now wb st m) (n2 : Int) (q : Tok) : LM x wait ab awl n2 wb st (fun y => if y = "now" then some (.int n2 q) else m y) where
  box := (if_neg (by decide)).trans h.box
  wait := h.wait.imp fun _ e => (if_neg (by decide)).trans e
  went := (if_neg (by decide)).trans h.went
  now := ⟨q, if_pos rfl⟩
  isw := (if_neg (by decide)).trans h.isw
  state := h.state.imp fun _ e => (if_neg (by decide)).trans e
  conn := (if_neg (by decide)).trans h.conn
end
theorem kstB_self {m : Str → Option Value} {ps : List (Str × Value)} (hp : ∀ p ∈ ps, m p.1 = some p.2) : kstB m ps = m := funext fun _ => kstB_eq hp fun _ => rfl
theorem hp0 {m : Str → Option Value} : ∀ p ∈ ([] : List (Str × Value)), m p.1 = some p.2 := List.forall_mem_nil _
theorem hpc {m : Str → Option Value} {k : Str} {v : Value} {ps : List (Str × Value)} (h : m k = some v) (t : ∀ p ∈ ps, m p.1 = some p.2) : ∀ p ∈ (k, v) :: ps, m p.1 = some p.2 := List.forall_mem_cons.mpr ⟨h, t⟩
/-! the block's entries -/
section
variable {x : Fx} {c : Ch}
theorem cl_ac : (x.ac, instObj 449 x.dc) ∈ CL x c := .head _
theorem cl_dc : (x.dc, dictOf c.ec c.nc) ∈ CL x c := .tail _ (.head _)
theorem cl_ap : (x.ap, instObj 282 x.dP) ∈ CL x c := .tail _ (.tail _ (.tail _ (.tail _ (.tail _ (.tail _ (.tail _ (.tail _ (.tail _ (.head _)))))))))
theorem cl_dP : (x.dP, dictOf c.eP c.nP) ∈ CL x c := .tail _ (.tail _ (.tail _ (.tail _ (.tail _ (.tail _ (.tail _ (.tail _ (.tail _ (.tail _ (.head _))))))))))
theorem cl_ah : (x.ah, instObj 167 x.dh) ∈ CL x c := .tail _ (.tail _ (.tail _ (.tail _ (.tail _ (.tail _ (.tail _ (.tail _ (.tail _ (.tail _ (.tail _ (.tail _ (.head _))))))))))))
theorem cl_dh : (x.dh, dictOf x.eh x.nh) ∈ CL x c := .tail _ (.tail _ (.tail _ (.tail _ (.tail _ (.tail _ (.tail _ (.tail _ (.tail _ (.tail _ (.tail _ (.tail _ (.tail _ (.head _)))))))))))))
theorem cl_aw : (x.aw, instObj 167 x.dw) ∈ CL x c := .tail _ (.tail _ (.tail _ (.tail _ (.tail _ (.tail _ (.tail _ (.tail _ (.tail _ (.tail _ (.tail _ (.tail _ (.tail _ (.tail _ (.tail _ (.head _)))))))))))))))
theorem cl_dw : (x.dw, dictOf c.ew c.nw) ∈ CL x c := .tail _ (.tail _ (.tail _ (.tail _ (.tail _ (.tail _ (.tail _ (.tail _ (.tail _ (.tail _ (.tail _ (.tail _ (.tail _ (.tail _ (.tail _ (.tail _ (.head _))))))))))))))))
theorem cl_awc : (c.awc, listOf c.vs.toArray c.nwc) ∈ CL x c := .tail _ (.tail _ (.tail _ (.tail _ (.tail _ (.tail _ (.tail _ (.tail _ (.tail _ (.tail _ (.tail _ (.tail _ (.tail _ (.tail _ (.tail _ (.tail _ (.tail _ (.head _)))))))))))))))))
theorem cl_ao : (x.ao, listOf #[] x.no) ∈ CL x c := .tail _ (.tail _ (.tail _ (.tail _ (.tail _ (.tail _ (.tail _ (.tail _ (.tail _ (.tail _ (.tail _ (.tail _ (.tail _ (.tail _ (.tail _ (.tail _ (.tail _ (.tail _ (.tail _ (.head _)))))))))))))))))))
end
def OffA (l : List (Addr × Obj)) (as : List Addr) : Prop := ∀ y ∈ l, ∀ a ∈ as, y.1 ≠ a
theorem OffA.all {l r : List (Addr × Obj)} (h : OffA l (r.map (·.1))) : OffAll l r := fun y hy q hq => h y hy q.1 (List.mem_map_of_mem hq)
theorem OffAll.adr {l r : List (Addr × Obj)} (h : OffAll l r) : OffA l (r.map (·.1)) := fun y hy a ha => by
  obtain ⟨q, hq, rfl⟩ := List.mem_map.mp ha
  exact h y hy q hq
def stN : Ph → Str
  | .fresh => "tried"
  | .tried _ => "tried"
  | .proven => "proven"
  | .home => "home"
def wbOk (wb : Bool) (now : Int) : Ph → Prop
  | .fresh => wb = true ∧ now = 0
  | .tried b => wb = b
  | .proven => wb = false
  | .home => wb = false
/-- what is so at a turn's top, and through it -/
structure TI (w : World) (wait : Int) (x : Fx) (ab al : Addr) (i : Nat) (c : Ch) (n : Nat) (ph : Ph) (now : Int) (wb : Bool) (awl : Addr) (kb : Int) (ws : List Value) : Prop where
  cf : CF w wait x c n
  pf : PhF wait x c n ph
  hv : BAre ws (chals n)
  hn : n ≤ i
  kb0 : 0 ≤ kb
  kb1 : kb ≤ 2 + 2 * (i : Int)
  wbh : wbOk wb now ph
  off : OffA (CL x c) [awl, ab, al]
  d1 : @LT.lt Nat _ al ab
  d2 : @Ne Nat ab awl
  d3 : @Ne Nat al awl
def tled (x : Fx) (ab al : Addr) (na : Nat) (xs : List Value) (c : Ch) (awl : Addr) (kb : Int) (tkb : Tok) (nb nl : Nat) (ws : List Value) : List (Addr × Obj) :=
  (ab, listOf #[.ref al, .int kb tkb] nb) :: (al, listOf xs.toArray na) :: (awl, listOf ws.toArray nl) :: CL x c
/-- what a turn is to leave -/
def RT (w : World) (wait : Int) (x : Fx) (ab al : Addr) (na : Nat) (xs : List Value) (h₀ : Heap) (L I : Addr) (oi : Obj) (i : Nat) (s : Shared) (Q : Flow → Shared → Prop) : Prop :=
  ∀ (c : Ch) (n : Nat) (ph : Ph) (now : Int) (wb : Bool) (awl : Addr) (kb : Int) (ws : List Value) (tkb : Tok) (nb nl : Nat) (m : Str → Option Value) (h : Heap) (tk : Nat), ph ≠ .fresh →
    TI w wait x ab al i c n ph now wb awl kb ws → LM x wait ab awl now wb (stN ph) m → Fr h₀ L h m → News h₀ L h ((I, oi) :: tled x ab al na xs c awl kb tkb nb nl ws) → (∀ p ∈ tled x ab al na xs c awl kb tkb nb nl ws, p.1 ≠ I) → Q .next { s with heap := h, toks := tk }
section
variable {w : World} {wait : Int} {x : Fx} {ab al I : Addr} {i : Nat} {c : Ch} {n : Nat} {ph : Ph} {now : Int} {wb : Bool} {awl : Addr} {kb : Int} {ws : List Value} {na : Nat} {xs : List Value} {tkb : Tok} {nb nl : Nat} {oi : Obj}
abbrev r5 (I ab al : Addr) (oi o1 o2 : Obj) : List (Addr × Obj) := [(I, oi), (ab, o1), (al, o2)]
theorem off5 {o1 o2 o3 : Obj} (off : OffA (CL x c) [awl, ab, al]) (hI : ∀ p ∈ CL x c, p.1 ≠ I) : OffAll (CL x c) ((awl, o3) :: r5 I ab al oi o1 o2) := by
  intro y hy q hq
  rcases List.mem_cons.mp hq with rfl | hq
  · exact off y hy _ (.head _)
  · rcases List.mem_cons.mp hq with rfl | hq
    · exact hI y hy
    · rcases List.mem_cons.mp hq with rfl | hq
      · exact off y hy _ (.tail _ (.head _))
      · rw [List.mem_singleton.mp hq]; exact off y hy _ (.tail _ (.tail _ (.head _)))
theorem off5_a {o1 o2 o3 : Obj} (o : OffAll (CL x c) ((awl, o3) :: r5 I ab al oi o1 o2)) : OffA (CL x c) [awl, ab, al] := by
  intro y hy a ha
  rcases List.mem_cons.mp ha with rfl | ha
  · exact o y hy _ (.head _)
  · rcases List.mem_cons.mp ha with rfl | ha
    · exact o y hy _ (.tail _ (.tail _ (.head _)))
    · rw [List.mem_singleton.mp ha]; exact o y hy _ (.tail _ (.tail _ (.tail _ (.head _))))
theorem off5_i {o1 o2 o3 : Obj} (o : OffAll (CL x c) ((awl, o3) :: r5 I ab al oi o1 o2)) : ∀ p ∈ CL x c, p.1 ≠ I := fun y hy => o y hy _ (.tail _ (.head _))
theorem off5_2 {o1 o2 o3 : Obj} (o : OffAll (CL x c) ((awl, o3) :: r5 I ab al oi o1 o2)) (h1 : @Ne Nat awl I) (h2 : @Ne Nat ab awl) (h3 : @Ne Nat al awl) : OffAll ((awl, o3) :: CL x c) (r5 I ab al oi o1 o2) := by
  refine OffAll.cons (fun q hq => ?_) o.rtl
  rcases List.mem_cons.mp hq with rfl | hq
  · exact h1
  · rcases List.mem_cons.mp hq with rfl | hq
    · exact Ne.symm h2
    · rw [List.mem_singleton.mp hq]; exact Ne.symm h3
theorem hI_cl (h : ∀ p ∈ tled x ab al na xs c awl kb tkb nb nl ws, p.1 ≠ I) : ∀ p ∈ CL x c, p.1 ≠ I := fun p hp => h p (.tail _ (.tail _ (.tail _ hp)))
theorem hI_ab (h : ∀ p ∈ tled x ab al na xs c awl kb tkb nb nl ws, p.1 ≠ I) : ab ≠ I := h _ (.head _)
theorem hI_al (h : ∀ p ∈ tled x ab al na xs c awl kb tkb nb nl ws, p.1 ≠ I) : al ≠ I := h _ (.tail _ (.head _))
theorem hI_awl (h : ∀ p ∈ tled x ab al na xs c awl kb tkb nb nl ws, p.1 ≠ I) : awl ≠ I := h _ (.tail _ (.tail _ (.head _)))
theorem hI_mk (h1 : ab ≠ I) (h2 : al ≠ I) (h3 : awl ≠ I) (h4 : ∀ p ∈ CL x c, p.1 ≠ I) : ∀ p ∈ tled x ab al na xs c awl kb tkb nb nl ws, p.1 ≠ I := by
  intro p hp
  rcases List.mem_cons.mp hp with rfl | hp
  · exact h1
  · rcases List.mem_cons.mp hp with rfl | hp
    · exact h2
    · rcases List.mem_cons.mp hp with rfl | hp
      · exact h3
      · exact h4 p hp
theorem n5_of {h₀ h : Heap} {L : Addr} (N : News h₀ L h ((I, oi) :: tled x ab al na xs c awl kb tkb nb nl ws)) : News h₀ L h ((awl, listOf ws.toArray nl) :: (CL x c ++ r5 I ab al oi (listOf #[.ref al, .int kb tkb] nb) (listOf xs.toArray na))) :=
  nc N (.tail _ (.tail _ (.tail _ (.head _)))) (newsApp (fun q hq => N q (.tail _ (.tail _ (.tail _ (.tail _ hq))))) (nc N (.head _) (nc N (.tail _ (.head _)) (nc N (.tail _ (.tail _ (.head _))) fun q hq => (List.not_mem_nil hq).elim))))
theorem n5_to {h₀ h : Heap} {L : Addr} (N : News h₀ L h ((awl, listOf ws.toArray nl) :: (CL x c ++ r5 I ab al oi (listOf #[.ref al, .int kb tkb] nb) (listOf xs.toArray na)))) : News h₀ L h ((I, oi) :: tled x ab al na xs c awl kb tkb nb nl ws) :=
  nc N (.tail _ (List.mem_append_right _ (.head _))) (nc N (.tail _ (List.mem_append_right _ (.tail _ (.head _)))) (nc N (.tail _ (List.mem_append_right _ (.tail _ (.tail _ (.head _))))) (nc N (.head _) fun q hq => N q (.tail _ (List.mem_append_left _ hq)))))
theorem n9_of {h₀ h : Heap} {L : Addr} {e : Addr × Obj} {r : List (Addr × Obj)} (N : News h₀ L h (e :: (CL x c ++ r))) : News h₀ L h ((x.ac, instObj 449 x.dc) :: (x.dc, dictOf c.ec c.nc) :: (x.ap, instObj 282 x.dP) :: (x.dP, dictOf c.eP c.nP) :: e :: (CL x c ++ r)) :=
  nc N (.tail _ (List.mem_append_left _ cl_ac)) (nc N (.tail _ (List.mem_append_left _ cl_dc)) (nc N (.tail _ (List.mem_append_left _ cl_ap)) (nc N (.tail _ (List.mem_append_left _ cl_dP)) N)))
end
section
variable {x : Fx} {ab al I : Addr} {c : Ch} {awl : Addr} {kb : Int} {ws : List Value} {na : Nat} {xs : List Value} {tkb : Tok} {nb nl : Nat} {oi : Obj} {h₀ h : Heap} {L : Addr} {e d f : Addr × Obj} {r : List (Addr × Obj)}
theorem n3_of (N : News h₀ L h (e :: (CL x c ++ r))) : News h₀ L h ((x.ac, instObj 449 x.dc) :: (x.dc, dictOf c.ec c.nc) :: (x.ap, instObj 282 x.dP) :: (x.dP, dictOf c.eP c.nP) :: (CL x c ++ (e :: r))) :=
  nc N (.tail _ (List.mem_append_left _ cl_ac)) (nc N (.tail _ (List.mem_append_left _ cl_dc)) (nc N (.tail _ (List.mem_append_left _ cl_ap)) (nc N (.tail _ (List.mem_append_left _ cl_dP)) (newsApp (fun q hq => N q (.tail _ (List.mem_append_left _ hq))) (nc N (.head _) fun q hq => N q (.tail _ (List.mem_append_right _ hq)))))))
theorem n3_to (N : News h₀ L h (CL x c ++ (e :: r))) : News h₀ L h (e :: (CL x c ++ r)) := nc N (List.mem_append_right _ (.head _)) (newsApp (fun q hq => N q (List.mem_append_left _ hq)) fun q hq => N q (List.mem_append_right _ (.tail _ hq)))
theorem n4_of (N : News h₀ L h ((I, oi) :: tled x ab al na xs c awl kb tkb nb nl ws)) : News h₀ L h ((ab, listOf #[.ref al, .int kb tkb] nb) :: (al, listOf xs.toArray na) :: (awl, listOf ws.toArray nl) :: (I, oi) :: CL x c) :=
  nc N (.tail _ (.head _)) (nc N (.tail _ (.tail _ (.head _))) (nc N (.tail _ (.tail _ (.tail _ (.head _)))) (nc N (.head _) fun q hq => N q (.tail _ (.tail _ (.tail _ (.tail _ hq)))))))
theorem n4_to (N : News h₀ L h ((ab, listOf #[.ref al, .int kb tkb] nb) :: (al, listOf xs.toArray na) :: (awl, listOf ws.toArray nl) :: (I, oi) :: CL x c)) : News h₀ L h ((I, oi) :: tled x ab al na xs c awl kb tkb nb nl ws) :=
  nc N (.tail _ (.tail _ (.tail _ (.head _)))) (nc N (.head _) (nc N (.tail _ (.head _)) (nc N (.tail _ (.tail _ (.head _))) fun q hq => N q (.tail _ (.tail _ (.tail _ (.tail _ hq)))))))
theorem off4 {o1 o2 : Obj} (off : OffA (CL x c) [awl, ab, al]) (h1 : ab ≠ I) (h2 : al ≠ I) : OffAll [(ab, o1), (al, o2)] ((I, oi) :: CL x c) := by
  intro y hy q hq
  rcases List.mem_cons.mp hy with rfl | hy
  · rcases List.mem_cons.mp hq with rfl | hq
    · exact h1
    · exact Ne.symm (off q hq _ (.tail _ (.head _)))
  · rw [List.mem_singleton.mp hy]
    rcases List.mem_cons.mp hq with rfl | hq
    · exact h2
    · exact Ne.symm (off q hq _ (.tail _ (.tail _ (.head _))))
theorem n0_of (N : News h₀ L h ((I, oi) :: tled x ab al na xs c awl kb tkb nb nl ws)) : News h₀ L h ((awl, listOf ws.toArray nl) :: (I, oi) :: (ab, listOf #[.ref al, .int kb tkb] nb) :: (al, listOf xs.toArray na) :: CL x c) :=
  nc N (.tail _ (.tail _ (.tail _ (.head _)))) (nc N (.head _) (nc N (.tail _ (.head _)) (nc N (.tail _ (.tail _ (.head _))) fun q hq => N q (.tail _ (.tail _ (.tail _ (.tail _ hq)))))))
theorem n1_of {i b a : Addr × Obj} (N : News h₀ L h (d :: f :: e :: i :: b :: a :: CL x c)) : News h₀ L h (d :: f :: (CL x c ++ (e :: [i, b, a]))) :=
  nc N (.head _) (nc N (.tail _ (.head _)) (newsApp (fun q hq => N q (.tail _ (.tail _ (.tail _ (.tail _ (.tail _ (.tail _ hq))))))) (nc N (.tail _ (.tail _ (.head _))) (nc N (.tail _ (.tail _ (.tail _ (.head _)))) (nc N (.tail _ (.tail _ (.tail _ (.tail _ (.head _))))) (nc N (.tail _ (.tail _ (.tail _ (.tail _ (.tail _ (.head _)))))) fun q hq => (List.not_mem_nil hq).elim))))))
theorem n2_of {i b a : Addr × Obj} (N : News h₀ L h (d :: f :: (CL x c ++ (e :: [i, b, a])))) : News h₀ L h (d :: f :: e :: i :: b :: a :: CL x c) :=
  nc N (.head _) (nc N (.tail _ (.head _)) (nc N (.tail _ (.tail _ (List.mem_append_right _ (.head _)))) (nc N (.tail _ (.tail _ (List.mem_append_right _ (.tail _ (.head _))))) (nc N (.tail _ (.tail _ (List.mem_append_right _ (.tail _ (.tail _ (.head _)))))) (nc N (.tail _ (.tail _ (List.mem_append_right _ (.tail _ (.tail _ (.tail _ (.head _))))))) fun q hq => N q (.tail _ (.tail _ (List.mem_append_left _ hq))))))))
theorem n1n_of {i b a : Addr × Obj} (N : News h₀ L h (d :: i :: b :: a :: e :: CL x c)) : News h₀ L h (d :: (CL x c ++ (e :: [i, b, a]))) :=
  nc N (.head _) (newsApp (fun q hq => N q (.tail _ (.tail _ (.tail _ (.tail _ (.tail _ hq)))))) (nc N (.tail _ (.tail _ (.tail _ (.tail _ (.head _))))) (nc N (.tail _ (.head _)) (nc N (.tail _ (.tail _ (.head _))) (nc N (.tail _ (.tail _ (.tail _ (.head _)))) fun q hq => (List.not_mem_nil hq).elim)))))
theorem n2n_of {i b a : Addr × Obj} (N : News h₀ L h (d :: (CL x c ++ (e :: [i, b, a])))) : News h₀ L h (d :: e :: i :: b :: a :: CL x c) :=
  nc N (.head _) (nc N (.tail _ (List.mem_append_right _ (.head _))) (nc N (.tail _ (List.mem_append_right _ (.tail _ (.head _)))) (nc N (.tail _ (List.mem_append_right _ (.tail _ (.tail _ (.head _))))) (nc N (.tail _ (List.mem_append_right _ (.tail _ (.tail _ (.tail _ (.head _)))))) fun q hq => N q (.tail _ (List.mem_append_left _ hq))))))
theorem n2_to (N : News h₀ L h ((awl, listOf ws.toArray nl) :: (I, oi) :: (ab, listOf #[.ref al, .int kb tkb] nb) :: (al, listOf xs.toArray na) :: CL x c)) : News h₀ L h ((I, oi) :: tled x ab al na xs c awl kb tkb nb nl ws) :=
  nc N (.tail _ (.head _)) (nc N (.tail _ (.tail _ (.head _))) (nc N (.tail _ (.tail _ (.tail _ (.head _)))) (nc N (.head _) fun q hq => N q (.tail _ (.tail _ (.tail _ (.tail _ hq)))))))
/-- all of a ledger is under a new list -/
theorem off_new {a2 : Addr} (off : OffA (CL x c) [awl, ab, al]) (lt : ∀ q ∈ CL x c, @LT.lt Nat _ q.1 a2) : OffA (CL x c) [a2, ab, al] := by
  intro y hy a ha
  rcases List.mem_cons.mp ha with rfl | ha
  · exact Nat.ne_of_lt (lt y hy)
  · exact off y hy a (.tail _ ha)
theorem off_y {ad at0 : Addr} {o0 od : Obj} {o1 o2 o3 : Obj} (o : OffAll (CL x c) ((awl, o3) :: r5 I ab al oi o1 o2)) (lt : ∀ q ∈ (I, oi) :: (ab, o1) :: (al, o2) :: CL x c, @LT.lt Nat _ q.1 at0) (l1 : @LT.lt Nat _ awl at0) (l2 : @LT.lt Nat _ at0 ad) :
    OffAll ((ad, od) :: CL x c) ((at0, o0) :: (awl, o3) :: r5 I ab al oi o1 o2) := by
  refine OffAll.cons (fun q hq => ?_) (OffAll.rcons (fun y hy => Nat.ne_of_lt (lt y (.tail _ (.tail _ (.tail _ hy))))) o)
  rcases List.mem_cons.mp hq with rfl | hq
  · exact Nat.ne_of_gt l2
  · rcases List.mem_cons.mp hq with rfl | hq
    · exact Nat.ne_of_gt (Nat.lt_trans l1 l2)
    · refine Nat.ne_of_gt (Nat.lt_trans (lt q ?_) l2)
      rcases List.mem_cons.mp hq with rfl | hq
      · exact .head _
      · rcases List.mem_cons.mp hq with rfl | hq
        · exact .tail _ (.head _)
        · rw [List.mem_singleton.mp hq]; exact .tail _ (.tail _ (.head _))
theorem off_n {ad : Addr} {od : Obj} {o1 o2 o3 : Obj} (o : OffAll (CL x c) ((awl, o3) :: r5 I ab al oi o1 o2)) (lt : ∀ q ∈ (I, oi) :: (ab, o1) :: (al, o2) :: (awl, o3) :: CL x c, @LT.lt Nat _ q.1 ad) :
    OffAll ((ad, od) :: CL x c) ((awl, o3) :: r5 I ab al oi o1 o2) := by
  refine OffAll.cons (fun q hq => Nat.ne_of_gt (lt q ?_)) o
  rcases List.mem_cons.mp hq with rfl | hq
  · exact .tail _ (.tail _ (.tail _ (.head _)))
  · rcases List.mem_cons.mp hq with rfl | hq
    · exact .head _
    · rcases List.mem_cons.mp hq with rfl | hq
      · exact .tail _ (.head _)
      · rw [List.mem_singleton.mp hq]; exact .tail _ (.tail _ (.head _))
end
theorem cl_pt {x : Fx} {c : Ch} : (x.pt, tabObj x.ps) ∈ CL x c := .tail _ (.tail _ (.tail _ (.tail _ (.tail _ (.tail _ (.tail _ (.tail _ (.tail _ (.tail _ (.tail _ (.tail _ (.tail _ (.tail _ (.tail _ (.tail _ (.tail _ (.tail _ (.tail _ (.tail _ (.head _))))))))))))))))))))
end Mine
end
section
open PySem PySem.W PyProof.Rows PySem.Calls
namespace Mine
/-- the lambdas of _law_state, read off the given program -/
def stateBody : List Stmt := match PySem.Challenge.pw_pf0276_01.main.body.dropLast.getLast? with
  | some (Stmt.FunctionDef _ _ b _ _ _ _ _ _ _) => b
  | _ => []
def lam1 : Expr := match stateBody[2]? with
  | some (Stmt.Assign _ (Expr.Tuple (l :: _) _ _) _) => l
  | _ => .Name "" default
def lam2 : Expr := match stateBody[3]? with
  | some (Stmt.Assign _ l _) => l
  | _ => .Name "" default
def lamA : Expr → Arguments
  | .Lambda a _ _ _ => a
  | _ => { posonlyargs := [], args := [], vararg := none, kwonlyargs := [], kw_defaults := [], kwarg := none, defaults := [] }
def lamB : Expr → Expr
  | .Lambda _ b _ _ => b
  | e => e
def lamS : Expr → Scope
  | .Lambda _ _ s _ => s
  | _ => lawScope
end Mine
end
section
open PySem PySem.W PyProof.Rows PySem.Calls
namespace Mine
set_option maxRecDepth 100000
theorem i_no_bytes : typeLookup (.type "int") "__bytes__" = pure none := by rw [typeLookup_type, builtinLookup_eq_fast]; kernel_rfl
theorem i_index : typeLookup (.type "int") "__index__" = pure (some (.builtin "int.__index__")) := by rw [typeLookup_type, builtinLookup_eq_fast]; kernel_rfl
section
variable {prog : Program} {w : World} {A : Around} {E : Value → Shared → Prop} {s : Shared}
theorem b8_new {t : Tok} {Q : Value → Shared → Prop} (hQ : ∀ u k, Q (.bytes (Array.replicate 8 0) u) { s with toks := k }) :
    codeAny (model prog w) A (.call (.builtin "bytes.__new__") ⟨[.type "bytes", .int 8 t], []⟩) (wants Q E) s := by
  refine codeAny_of_tree ?_
  show wpAny _ A.in1 (do checkBuiltinCall "bytes.__new__" ⟨[.type "bytes", .int 8 t], []⟩; again (.builtin "bytes.__new__" ⟨[.type "bytes", .int 8 t], []⟩)) _ _ s
  refine wpAny_bind (wpAny_of_eq (F.bm_newCall _) (wpAny_pure ⟨plainId_quiet F.bm_plain _, codeAny_builtin F.bm_entry ?_⟩))
  rw [Around.under_plainId F.bm_plain _]
  have hT : s.TypeIs (.int 8 t) "int" := typeIs_int _ _ _
  unfold Builtin.«bytes.__new__»
  refine wpAny_bind (wpAny_of_eq (a := true) rfl ?_)
  refine bm_if_false rfl ?_
  refine wpAny_bind (wpAny_of_eq F.bm_sub ?_)
  refine bm_if_false rfl ?_
  refine wpAny_bind (wpAny_of_eq (F.bm_bind _) ?_)
  refine wpAny_bind (wpAny_of_eq (a := ()) rfl ?_)
  refine wpAny_bind (wpAny_of_eq (a := ()) rfl ?_)
  refine bm_if_false rfl ?_
  refine wpAny_bind (wpAny_specialOf hT i_no_bytes ?_)
  refine wpAny_bind (wpAny_of_eq (a := false) rfl ?_)
  refine bm_if_false rfl ?_
  refine wpAny_bind (wpAny_specialOf hT i_index ?_)
  refine bm_if_false rfl ?_
  refine wpAny_bind (wpAny_attempt ?_)
  refine wpAny_of_eq (a := (8 : Int)) rfl ?_
  dsimp only
  refine bm_if_false (by decide) ?_
  rw [if_neg (by decide)]
  rw [if_neg (by decide)]
  refine bm_if_false (by decide) ?_
  refine wpAny_bind (wpAny_rule ?_)
  refine wpAny_bind ?_
  unfold mkBytes
  rw [if_neg (by decide)]
  refine wpAny_bind (wpAny_fresh (wpAny_pure ?_))
  show wpAny _ _ (ret _) _ _ _
  exact wpAny_pure (hQ _ _)
theorem call_bytes8 {t : Tok} {Q : Value → Shared → Prop} (hQ : ∀ u k, Q (.bytes (Array.replicate 8 0) u) { s with toks := k }) : wpAny (model prog w) A (call (.type "bytes") [.int 8 t]) Q E s := by
  refine callType_codes (Q₁ := fun obj s₁ => s₁.TypeIs obj "bytes" ∧ Q obj s₁) F.bm_called (F.bm_typeCall _) F.entry_object_init
    (b8_new fun u k => ⟨PySem.W.typeIs_bytes _ _ _, hQ u k⟩) fun obj s₁ h₁ => ?_
  exact ⟨h₁.1, F.args_object_init_2 obj _, object_init_meets F.bm_called.init.lookup F.bm_called.made (by decide) prog w A.in1 _ s₁ ⟨h₁.1, rfl, h₁.2⟩⟩
end
end Mine
end
section
open PySem PySem.W PyProof.Rows PySem.Calls PySem.SeqAt
namespace Mine
section
variable {prog : Program} {w : World} {A : Around} {E : Value → Shared → Prop} {s : Shared} {h₀ : Heap} {L : Addr} {news : List (Addr × Obj)}
theorem eq_tups {a b : Addr} {p : Str} {d : Array UInt8} {t1 t2 t3 t4 : Tok} (ha : s.heap.IsTuple a #[.str p t1, .bytes d t2]) (hb : s.heap.IsTuple b #[.str p t3, .bytes d t4]) (hu : A.units < cLine) : EqAt A s (.ref a) (.ref b) true := by
  by_cases hne : a = b
  · subst hne; exact EqAt.same _
  · refine EqAt.of_refs hne ?_
    have := RcAt.tuples (e := fun _ => true) ha hb hu fun j h1 h2 => ?_
    · exact this
    · match j, h1 with
      | 0, _ => exact (beq_self_eq_true p) ▸ EqAt.str_str p t1 p t3
      | 1, _ => exact (beq_self_eq_true d.toList) ▸ eqAt_bytes d d t2 t4
theorem ne_due {l k a b : Addr} {n1 n2 : Nat} {p : Str} {d : Array UInt8} {t1 t2 t3 t4 : Tok} {Q : Value → Shared → Prop} (N : News h₀ L s.heap news) (hl : (l, listOf #[.ref a] n1) ∈ news) (hk : (k, listOf #[.ref b] n2) ∈ news)
    (ha : (a, { cls := .type "tuple", data := .seq #[.str p t1, .bytes d t2] }) ∈ news) (hb : (b, { cls := .type "tuple", data := .seq #[.str p t3, .bytes d t4] }) ∈ news) (hu : A.units + 3 < cLine)
    (h : Q (.bool false) s) : wpAny (model prog w) A (compareOp .NotEq (.ref l) (.ref k)) Q E s := by
  have := RcNeAt.lists (A := A) (s := s) (e := fun _ => true) (l := l) (b := k) (items := #[.ref a]) (items2 := #[.ref b]) ⟨_, (N _ hl).1, rfl, n1, rfl⟩ ⟨_, (N _ hk).1, rfl, n2, rfl⟩ rfl (by omega) fun j h1 h2 => ?_
  · exact this prog w E Q (by simpa using h)
  · match j, h1 with
    | 0, _ => exact eq_tups ⟨_, (N _ ha).1, rfl, 0, rfl⟩ ⟨_, (N _ hb).1, rfl, 0, rfl⟩ (by first | (simp only [units_in1]; omega) | omega)
end
end Mine
end
section
open PySem PySem.W PyProof.Rows PySem.Calls
namespace Mine
section
local macro_rules | `(tactic| walk_at $s:str) => `(tactic| k_extra $s)
local macro_rules | `(tactic| lcg_off) => `(tactic| first | assumption | (simp only [LCg.Off3, and_true]; assumption))
local macro_rules | `(tactic| k_room) => `(tactic| ktr_room)
local macro_rules | `(tactic| k_units) => `(tactic| ktr_units)
set_option maxRecDepth 100000 in
set_option maxHeartbeats 1500000 in
theorem paths_init {w : World} {p : Program} {loose : List Str} {mean : ExcName → Option Value} {mg mb : Str → Option Value} {dp un : Nat} {gd : Option (List Code)} {cn : Str} {cs : Scope} {a : Addr} {ccd : Value} {cl : List (Str × Addr)} {outer : List Env} {A₀ : Around} {base h₀ : Heap} {L : Addr} {m : Str → Option Value} {s : Shared} {Q E : Value → Shared → Prop} {rest : List (Addr × Obj)} {xx dx : Addr} {R : Result → Shared → Prop} {t1 t2 : Tok}
    (B : Below A₀ base outer h₀) (F : Fr h₀ L s.heap m) (X : (hd.heap_1 w.params).In h₀) (T : Top p loose mean mg mb h₀) (hk : cs.kind = .function)
    (N₁ : News h₀ L s.heap [(xx, instObj 282 dx), (dx, dictOf [] 0)]) (N₂ : News h₀ L s.heap rest) (apart : ∀ q ∈ rest, q.1 ∉ ([(xx, instObj 282 dx), (dx, dictOf [] 0)] : List (Addr × Obj)).map (·.1)) (hxd : @LT.lt Nat _ dx xx)
     (hdp : dp + 10 < recursionLimit) (hun : un + 200 < cLine)
    (ret : ∀ (eP : List DictEntry) (eh : List DictEntry) (ak : Addr) (ah : Addr) (dh : Addr) (ahc : Addr) (aa : Addr) (nP : Nat) (nk : Nat) (nh : Nat) (nhc : Nat) (na : Nat) (qh : Tok) (qs : Tok) (h' : Heap) (tk' : Nat), (∀ x ∈ ([(xx, instObj 282 dx), (dx, dictOf eP nP), (ak, listOf #[.ref ah] nk), (ah, instObj 167 dh), (dh, dictOf eh nh), (ahc, listOf #[] nhc), (aa, listOf #[] na)] : List (Addr × Obj)), ∀ q ∈ rest, x.1 ≠ q.1) → AbsD eP 20 ∧ AbsD eh 20 ∧ getL "role" eP = some (some (.str (Str.ofString "server") t1)) ∧ getL "may_move" eP = some (some (.bool true)) ∧ getL "known" eP = some (some (.ref ak)) ∧ getL "active" eP = some (some (.ref ah)) ∧ getL "last_proven" eP = some (some (.ref ah)) ∧ getL "highest" eP = some (some (.int (-1) qh)) ∧ getL "answers" eP = some (some (.ref aa)) ∧ getL "path_of" eP = some none ∧ getL "opened" eP = some none ∧ getL "on_datagram" eP = some none ∧ getL "on_packet" eP = some none ∧ getL "wants_challenge" eP = some none ∧ getL "on_challenge_lost" eP = some none ∧ getL "take_response" eP = some none ∧ getL "next_time" eP = some none ∧ getL "on_time" eP = some none ∧ getL "address" eh = some (some (.str (Str.ofString "home") t2)) ∧ getL "state" eh = some (some (.str (Str.ofString "proven") qs)) ∧ getL "is_free" eh = some (some (.bool true)) ∧ getL "challenges" eh = some (some (.ref ahc)) ∧ getL "deadline" eh = some (some (.none)) ∧ getL "is_proven" eh = some none ∧ @LT.lt Nat _ dx xx ∧ @LT.lt Nat _ xx dh ∧ @LT.lt Nat _ dh ah ∧ @LT.lt Nat _ ah ahc ∧ @LT.lt Nat _ ahc ak ∧ @LT.lt Nat _ ak aa → Fr h₀ L h' m → News h₀ L h' [(xx, instObj 282 dx), (dx, dictOf eP nP), (ak, listOf #[.ref ah] nk), (ah, instObj 167 dh), (dh, dictOf eh nh), (ahc, listOf #[] nhc), (aa, listOf #[] na)] → News h₀ L h' rest → R (.ok (.ret .none)) { s with heap := h', toks := tk' }) :
    codeAny (model PySem.Challenge.rw_pf0276_01.row.toRowW.prog w) ((ktrTop dp un gd cn cs L a ccd cl outer).under (.builtin "type.__call__" ⟨[.ref 282, .str (Str.ofString "server") t1, .str (Str.ofString "home") t2, .bool true, .bool true], []⟩)) (.call (.ref 185) ⟨[.ref xx, .str (Str.ofString "server") t1, .str (Str.ofString "home") t2, .bool true, .bool true], []⟩) R s := by
  revert X; k_fill; intro X
  obtain ⟨Pq, hPq⟩ : ∃ Pq : Addr → Value → List (Addr × Obj) → Prop, ∀ L' v news, Pq L' v news ↔ (∃ eP : List DictEntry, ∃ eh : List DictEntry, ∃ ak : Addr, ∃ ah : Addr, ∃ dh : Addr, ∃ ahc : Addr, ∃ aa : Addr, ∃ nP : Nat, ∃ nk : Nat, ∃ nh : Nat, ∃ nhc : Nat, ∃ na : Nat, ∃ qh : Tok, ∃ qs : Tok, v = .none ∧ news = [(xx, instObj 282 dx), (dx, dictOf eP nP), (ak, listOf #[.ref ah] nk), (ah, instObj 167 dh), (dh, dictOf eh nh), (ahc, listOf #[] nhc), (aa, listOf #[] na)] ∧ AbsD eP 20 ∧ AbsD eh 20 ∧ getL "role" eP = some (some (.str (Str.ofString "server") t1)) ∧ getL "may_move" eP = some (some (.bool true)) ∧ getL "known" eP = some (some (.ref ak)) ∧ getL "active" eP = some (some (.ref ah)) ∧ getL "last_proven" eP = some (some (.ref ah)) ∧ getL "highest" eP = some (some (.int (-1) qh)) ∧ getL "answers" eP = some (some (.ref aa)) ∧ getL "path_of" eP = some none ∧ getL "opened" eP = some none ∧ getL "on_datagram" eP = some none ∧ getL "on_packet" eP = some none ∧ getL "wants_challenge" eP = some none ∧ getL "on_challenge_lost" eP = some none ∧ getL "take_response" eP = some none ∧ getL "next_time" eP = some none ∧ getL "on_time" eP = some none ∧ getL "address" eh = some (some (.str (Str.ofString "home") t2)) ∧ getL "state" eh = some (some (.str (Str.ofString "proven") qs)) ∧ getL "is_free" eh = some (some (.bool true)) ∧ getL "challenges" eh = some (some (.ref ahc)) ∧ getL "deadline" eh = some (some (.none)) ∧ getL "is_proven" eh = some none ∧ @LT.lt Nat _ dx xx ∧ @LT.lt Nat _ xx dh ∧ @LT.lt Nat _ dh ah ∧ @LT.lt Nat _ ah ahc ∧ @LT.lt Nat _ ahc ak ∧ @LT.lt Nat _ ak aa) := ⟨fun L' v news => ∃ eP : List DictEntry, ∃ eh : List DictEntry, ∃ ak : Addr, ∃ ah : Addr, ∃ dh : Addr, ∃ ahc : Addr, ∃ aa : Addr, ∃ nP : Nat, ∃ nk : Nat, ∃ nh : Nat, ∃ nhc : Nat, ∃ na : Nat, ∃ qh : Tok, ∃ qs : Tok, v = .none ∧ news = [(xx, instObj 282 dx), (dx, dictOf eP nP), (ak, listOf #[.ref ah] nk), (ah, instObj 167 dh), (dh, dictOf eh nh), (ahc, listOf #[] nhc), (aa, listOf #[] na)] ∧ AbsD eP 20 ∧ AbsD eh 20 ∧ getL "role" eP = some (some (.str (Str.ofString "server") t1)) ∧ getL "may_move" eP = some (some (.bool true)) ∧ getL "known" eP = some (some (.ref ak)) ∧ getL "active" eP = some (some (.ref ah)) ∧ getL "last_proven" eP = some (some (.ref ah)) ∧ getL "highest" eP = some (some (.int (-1) qh)) ∧ getL "answers" eP = some (some (.ref aa)) ∧ getL "path_of" eP = some none ∧ getL "opened" eP = some none ∧ getL "on_datagram" eP = some none ∧ getL "on_packet" eP = some none ∧ getL "wants_challenge" eP = some none ∧ getL "on_challenge_lost" eP = some none ∧ getL "take_response" eP = some none ∧ getL "next_time" eP = some none ∧ getL "on_time" eP = some none ∧ getL "address" eh = some (some (.str (Str.ofString "home") t2)) ∧ getL "state" eh = some (some (.str (Str.ofString "proven") qs)) ∧ getL "is_free" eh = some (some (.bool true)) ∧ getL "challenges" eh = some (some (.ref ahc)) ∧ getL "deadline" eh = some (some (.none)) ∧ getL "is_proven" eh = some none ∧ @LT.lt Nat _ dx xx ∧ @LT.lt Nat _ xx dh ∧ @LT.lt Nat _ dh ah ∧ @LT.lt Nat _ ah ahc ∧ @LT.lt Nat _ ahc ak ∧ @LT.lt Nat _ ak aa, fun _ _ _ => Iff.rfl⟩
  k_dflt (refine' enter_code (K := hd.heap_1 w.params) [("self", .ref xx), ("role", .str (Str.ofString "server") t1), ("address", .str (Str.ofString "home") t2), ("is_proven", .bool true), ("may_move", .bool true)] Pq B F X T N₁ N₂ apart rfl rfl hk ?k6 ?k7 ?k8 ?k9 ?kB ?h ?c2 ?c3 ?c4 ?c5 ?ret; (case k6 => k_is); (case k7 => k_is); (case k8 => ktr_room); (case k9 => exact BindsTo.of_eq rfl); (case c5 => decide); (case kB => exact locs rfl); (case c2 => exact rfl); (case c3 => exact rfl); (case c4 => exact rfl))
  case ret =>
    rintro L' v news' h' tk' - - hl2 hpq F' N' R'
    obtain ⟨eP, eh, ak, ah, dh, ahc, aa, nP, nk, nh, nhc, na, qh, qs, rfl, rfl, hfacts⟩ := (hPq _ _ _).mp hpq
    exact ret eP eh ak ah dh ahc aa nP nk nh nhc na qh qs h' tk' hl2 hfacts F' N' R'
  intro g L' h₁ F N B X T l1
  clear ret N₁ N₂ apart
  k_lt l1
  w_top off
  k_with_none
  repeat' (first | (k_unfold; (try dsimp only)) | (k_end; wrow_close) | (walk1; (all_goals (try dsimp only))) | (dsimp only; walk1) | (leave1; walk_say "STEP leave1"; try dsimp only) | fail "no step")
  all_goals (refine' End1.intro _ (by assumption) (by assumption) ?sub ((hPq _ _ _).mpr ⟨_, _, _, _, _, _, _, _, _, _, _, _, _, _, rfl, rfl, ?f⟩); (case' sub => refine' ⟨?s0, ?s1, ?s2, ?s3, ?s4, ?s5, ?s6, trivial⟩); (case s0 => k_mem); (case s1 => k_mem); (case s2 => k_mem); (case s3 => k_mem); (case s4 => k_mem); (case f => (repeat' (first | exact AbsD.mk (Nat.le_of_ble_eq_true rfl) rfl | refine And.intro ?_ ?_ | exact rfl | k_get | omega))); (case s5 => k_mem); (case s6 => k_mem))
set_option maxRecDepth 100000 in
set_option maxHeartbeats 1500000 in
theorem space_init {w : World} {p : Program} {loose : List Str} {mean : ExcName → Option Value} {mg mb : Str → Option Value} {dp un : Nat} {gd : Option (List Code)} {cn : Str} {cs : Scope} {a : Addr} {ccd : Value} {cl : List (Str × Addr)} {outer : List Env} {A₀ : Around} {base h₀ : Heap} {L : Addr} {m : Str → Option Value} {s : Shared} {Q E : Value → Shared → Prop} {rest : List (Addr × Obj)} {xx dx : Addr} {R : Result → Shared → Prop} {nm : Str} {tn : Tok}
    (B : Below A₀ base outer h₀) (F : Fr h₀ L s.heap m) (X : (hd.heap_1 w.params).In h₀) (T : Top p loose mean mg mb h₀) (hk : cs.kind = .function)
    (N₁ : News h₀ L s.heap [(xx, instObj 449 dx), (dx, dictOf [] 0)]) (N₂ : News h₀ L s.heap rest) (apart : ∀ q ∈ rest, q.1 ∉ ([(xx, instObj 449 dx), (dx, dictOf [] 0)] : List (Addr × Obj)).map (·.1)) (hxd : @LT.lt Nat _ dx xx)
     (hdp : dp + 10 < recursionLimit) (hun : un + 200 < cLine)
    (ret : ∀ (ec : List DictEntry) (nc : Nat) (h' : Heap) (tk' : Nat), (∀ x ∈ ([(xx, instObj 449 dx), (dx, dictOf ec nc)] : List (Addr × Obj)), ∀ q ∈ rest, x.1 ≠ q.1) → AbsD ec 20 → Fr h₀ L h' m → News h₀ L h' [(xx, instObj 449 dx), (dx, dictOf ec nc)] → News h₀ L h' rest → R (.ok (.ret .none)) { s with heap := h', toks := tk' }) :
    codeAny (model PySem.Challenge.rw_pf0276_01.row.toRowW.prog w) ((ktrTop dp un gd cn cs L a ccd cl outer).under (.builtin "type.__call__" ⟨[.ref 449, .str nm tn], []⟩)) (.call (.ref 320) ⟨[.ref xx, .str nm tn], []⟩) R s := by
  revert X; k_fill; intro X
  obtain ⟨Pq, hPq⟩ : ∃ Pq : Addr → Value → List (Addr × Obj) → Prop, ∀ L' v news, Pq L' v news ↔ (∃ ec : List DictEntry, ∃ nc : Nat, v = .none ∧ news = [(xx, instObj 449 dx), (dx, dictOf ec nc)] ∧ AbsD ec 20) := ⟨fun L' v news => ∃ ec : List DictEntry, ∃ nc : Nat, v = .none ∧ news = [(xx, instObj 449 dx), (dx, dictOf ec nc)] ∧ AbsD ec 20, fun _ _ _ => Iff.rfl⟩
  k_dflt (refine' enter_code (K := hd.heap_1 w.params) [("self", .ref xx), ("name", .str nm tn)] Pq B F X T N₁ N₂ apart rfl rfl hk ?k6 ?k7 ?k8 ?k9 ?kB ?h ?c2 ?c3 ?c4 ?c5 ?ret; (case k6 => k_is); (case k7 => k_is); (case k8 => ktr_room); (case k9 => exact BindsTo.of_eq rfl); (case c5 => decide); (case kB => exact locs rfl); (case c2 => exact rfl); (case c3 => exact rfl); (case c4 => exact rfl))
  case ret =>
    rintro L' v news' h' tk' - - hl2 hpq F' N' R'
    obtain ⟨ec, nc, rfl, rfl, hfacts⟩ := (hPq _ _ _).mp hpq
    exact ret ec nc h' tk' hl2 hfacts F' N' R'
  intro g L' h₁ F N B X T l1
  clear ret N₁ N₂ apart
  k_lt l1
  w_top off
  k_with_none
  repeat' (first | (k_unfold; (try dsimp only)) | (k_end; wrow_close) | (walk1; (all_goals (try dsimp only))) | (dsimp only; walk1) | (leave1; walk_say "STEP leave1"; try dsimp only) | fail "no step")
  all_goals (exact End1.intro _ (by assumption) (by assumption) (by k_subL) ((hPq _ _ _).mpr ⟨_, _, rfl, rfl, ⟨Nat.le_of_ble_eq_true rfl, rfl⟩⟩))
section
local macro_rules | `(tactic| k_get) => `(tactic| first | assumption | exact getL_same' _ (by ktr_rel) _ _ _ | (refine (getL_other (by ktr_rel) (by decide) _ _ _).trans ?_; k_get))
local macro_rules | `(tactic| ktr_rel) => `(tactic| first | assumption | (refine' AbsD.put_old ?abA ?abG _ _ _; (case abA => ktr_rel); (case abG => k_get)) | (refine' AbsD.put ?abA _ _ _ _; (case abA => ktr_rel)))
set_option maxRecDepth 100000 in
set_option maxHeartbeats 1500000 in
theorem lost_hit {w : World} {p : Program} {loose : List Str} {mean : ExcName → Option Value} {mg mb : Str → Option Value} {dp un : Nat} {gd : Option (List Code)} {cn : Str} {cs : Scope} {a : Addr} {ccd : Value} {cl : List (Str × Addr)} {outer : List Env} {A₀ : Around} {base h₀ : Heap} {L : Addr} {m : Str → Option Value} {s : Shared} {Q E : Value → Shared → Prop} {rest : List (Addr × Obj)} {ap dP ak ah dh ahc aw dw awc : Addr} {eP eh ew : List DictEntry} {nP nk nh nhc nw nwc : Nat} {vs : List Value} {bs : List (Array UInt8)}{ac dc : Addr} {ec : List DictEntry} {nc : Nat} {at_ : Addr} {t1 t2 t3 : Tok} {b : Array UInt8} {wv : Value}
    (B : Below A₀ base outer h₀) (F : Fr h₀ L s.heap m) (X : (hd.heap_1 w.params).In h₀) (T : Top p loose mean mg mb h₀) (hk : cs.kind = .function)
    (N₁ : News h₀ L s.heap [(ac, instObj 449 dc), (dc, dictOf ec nc), (at_, { cls := .type "tuple", data := .seq #[.str (Str.ofString "path_challenge") t1, .bytes b t2] }), (ap, instObj 282 dP), (dP, dictOf eP nP), (ak, listOf #[.ref ah, .ref aw] nk), (ah, instObj 167 dh), (dh, dictOf eh nh), (ahc, listOf #[] nhc), (aw, instObj 167 dw), (dw, dictOf ew nw), (awc, listOf vs.toArray nwc)]) (N₂ : News h₀ L s.heap rest) (apart : ∀ q ∈ rest, q.1 ∉ ([(ac, instObj 449 dc), (dc, dictOf ec nc), (at_, { cls := .type "tuple", data := .seq #[.str (Str.ofString "path_challenge") t1, .bytes b t2] }), (ap, instObj 282 dP), (dP, dictOf eP nP), (ak, listOf #[.ref ah, .ref aw] nk), (ah, instObj 167 dh), (dh, dictOf eh nh), (ahc, listOf #[] nhc), (aw, instObj 167 dw), (dw, dictOf ew nw), (awc, listOf vs.toArray nwc)] : List (Addr × Obj)).map (·.1))
    (aP : AbsD eP 20) (aH : AbsD eh 20) (aW : AbsD ew 20) (hv : BAre vs bs) (gePknown : getL "known" eP = some (some (.ref ak))) (gehchallenges : getL "challenges" eh = some (some (.ref ahc))) (gewchallenges : getL "challenges" ew = some (some (.ref awc))) (aC : AbsD ec 60) (gecpaths : getL "paths" ec = some (some (.ref ap))) (mePonchallengelost : getL "on_challenge_lost" eP = some none) (gewwantsmore : getL "wants_more" ew = some (some (wv))) (hb : b ∈ bs) (ho : @LT.lt Nat _ dc ac ∧ @LT.lt Nat _ ac dP ∧ @LT.lt Nat _ dP ap ∧ @LT.lt Nat _ ap dh ∧ @LT.lt Nat _ dh ah ∧ @LT.lt Nat _ ah ahc ∧ @LT.lt Nat _ ahc ak ∧ @LT.lt Nat _ ak dw ∧ @LT.lt Nat _ dw aw ∧ @LT.lt Nat _ aw awc ∧ @LT.lt Nat _ awc at_) (hdp : dp + 10 < recursionLimit) (hun : un + 300 < cLine)
    (ret : ∀ (tq : Tok) (nw2 : Nat) (h' : Heap) (tk' : Nat), (∀ x ∈ ([(ac, instObj 449 dc), (dc, dictOf ec nc), (ap, instObj 282 dP), (dP, dictOf eP nP), (ak, listOf #[.ref ah, .ref aw] nk), (ah, instObj 167 dh), (dh, dictOf eh nh), (ahc, listOf #[] nhc), (aw, instObj 167 dw), (dw, dictOf (putL "wants_more" (PyData.keyHash w.params "wants_more") (.str "wants_more" tq) (.bool true) ew) nw2), (awc, listOf vs.toArray nwc)] : List (Addr × Obj)), ∀ q ∈ rest, x.1 ≠ q.1) → Fr h₀ L h' m → News h₀ L h' [(ac, instObj 449 dc), (dc, dictOf ec nc), (ap, instObj 282 dP), (dP, dictOf eP nP), (ak, listOf #[.ref ah, .ref aw] nk), (ah, instObj 167 dh), (dh, dictOf eh nh), (ahc, listOf #[] nhc), (aw, instObj 167 dw), (dw, dictOf (putL "wants_more" (PyData.keyHash w.params "wants_more") (.str "wants_more" tq) (.bool true) ew) nw2), (awc, listOf vs.toArray nwc)] → News h₀ L h' rest → Q (.none) { s with heap := h', toks := tk' }) :
    wpAny (model PySem.Challenge.rw_pf0276_01.row.toRowW.prog w) (ktrTop dp un gd cn cs L a ccd cl outer) (call (.ref 67) [.ref ac, .str (Str.ofString "application") t3, .ref at_]) Q E s := by
  revert X; k_fill; intro X
  obtain ⟨Pq, hPq⟩ : ∃ Pq : Addr → Value → List (Addr × Obj) → Prop, ∀ L' v news, Pq L' v news ↔ (∃ tq : Tok, ∃ nw2 : Nat, v = .none ∧ news = [(ac, instObj 449 dc), (dc, dictOf ec nc), (ap, instObj 282 dP), (dP, dictOf eP nP), (ak, listOf #[.ref ah, .ref aw] nk), (ah, instObj 167 dh), (dh, dictOf eh nh), (ahc, listOf #[] nhc), (aw, instObj 167 dw), (dw, dictOf (putL "wants_more" (PyData.keyHash w.params "wants_more") (.str "wants_more" tq) (.bool true) ew) nw2), (awc, listOf vs.toArray nwc)]) := ⟨fun L' v news => ∃ tq : Tok, ∃ nw2 : Nat, v = .none ∧ news = [(ac, instObj 449 dc), (dc, dictOf ec nc), (ap, instObj 282 dP), (dP, dictOf eP nP), (ak, listOf #[.ref ah, .ref aw] nk), (ah, instObj 167 dh), (dh, dictOf eh nh), (ahc, listOf #[] nhc), (aw, instObj 167 dw), (dw, dictOf (putL "wants_more" (PyData.keyHash w.params "wants_more") (.str "wants_more" tq) (.bool true) ew) nw2), (awc, listOf vs.toArray nwc)], fun _ _ _ => Iff.rfl⟩
  k_dflt (refine' enter_frameC (K := hd.heap_1 w.params) [("conn", .ref ac), ("space", .str (Str.ofString "application") t3), ("frame", .ref at_)] (Pq) B F X T N₁ N₂ apart rfl rfl hk ?k6 ?k7 ?k8 ?k9 ?kB ?kD ?h ?c2 ?c3 ?c4 ?ret; (case k6 => k_is); (case k7 => k_is); (case k8 => ktr_room); (case k9 => exact BindsTo.of_eq rfl); (case kD => decide); (case kB => exact rfl); (case c2 => exact rfl); (case c3 => exact rfl); (case c4 => exact rfl))
  case ret =>
    rintro L' v news' h' tk' - - hl2 hpq F' N' R'
    obtain ⟨tq, nw2, rfl, rfl⟩ := (hPq _ _ _).mp hpq
    exact ret tq nw2 h' tk' hl2 F' N' R'
  intro g L' h₁ tk cells F N Y B X T l1; dsimp only [cellsFrom, bindL, bindC] at F Y; k_cells Y; (try simp only [List.cons_append, List.nil_append] at N)
  clear ret N₁ N₂ apart
  k_lt l1
  w_top off
  k_with_none
  (k_with "setAttr ref" => (k_here; k_dflt (refine' set_dict ?k1 ?k2 ?k3 ?k4 ?k5 ?k6 ?k7 ?k8 ?k9 ?k10 ?k11 ?k12 ?k13 ?_; (case k1 | k2 | k3 => k_asm); (case k4 => k_inst); (case k5 => exact rfl); (case k6 | k7 | k8 | k9 => k_is); (case k10 => exact getL_some _ _ (AbsD.plain (by ktr_rel))); (case k11 => exact put_abs (by ktr_rel)); (case k12 => k_upd); (case k13 => exact le_abs (by ktr_rel) (by omega)); k_whole; intro h'_w F'_w N'_w; (try k_sweep))))
  (k_with "compareOp In" => (k_here; (with_reducible show wpAny _ _ (compareOp CmpOp.In (Value.bytes _ _) (Value.ref _)) _ _ _); k_dflt (first
      | (refine' in_miss ?N ?m ?v ?b ?_; (case N => k_asm); (case m => k_mem); (case v => first | assumption | exact BAre.nil); (case b => first | assumption | exact List.not_mem_nil); k_whole)
      | (refine' in_hit ?N ?m ?v ?b ?_; (case N => k_asm); (case m => k_mem); (case v | b => assumption); k_whole))))
  (k_with "compareOp In str ref" => (k_here; (with_reducible show wpAny _ _ (compareOp CmpOp.In (Value.str _ _) (Value.ref _)) _ _ _); k_dflt (refine' in_K_strs ?F ?X ?l ?i ?b ?_; (case F | X => k_asm); (case l => k_is); (case i => kde_strs); (case b => exact rfl); k_whole)))
  (k_with "call ref" => (k_here; k_dflt (refine' CallsTo.use ?c ?B ?F ?X ?T ?kA ?kF ?k ?kh ?N ?s ?d ?u ?_; (case c => solve_by_elim only [hPr, hCh]); (case kA | kF => exact rfl); (case B | F | X | T => k_asm); (case k | kh => exact rfl); (case N => k_asm); (case s => k_subL); (case d => ktr_room); (case u => ktr_units); k_whole; intro t'_w h'_w tk'_w F'_w N'_w; (try k_sweep))))
  repeat' (first | (k_unfold; (try dsimp only)) | (k_end; wrow_close) | (walk1; (all_goals (try dsimp only))) | (dsimp only; walk1) | (leave1; walk_say "STEP leave1"; try dsimp only) | fail "no step")
  all_goals (exact End1.intro _ (by assumption) (by assumption) (by k_subL) ((hPq _ _ _).mpr ⟨_, _, rfl, rfl⟩))
set_option maxRecDepth 100000 in
set_option maxHeartbeats 1500000 in
theorem lost_miss {w : World} {p : Program} {loose : List Str} {mean : ExcName → Option Value} {mg mb : Str → Option Value} {dp un : Nat} {gd : Option (List Code)} {cn : Str} {cs : Scope} {a : Addr} {ccd : Value} {cl : List (Str × Addr)} {outer : List Env} {A₀ : Around} {base h₀ : Heap} {L : Addr} {m : Str → Option Value} {s : Shared} {Q E : Value → Shared → Prop} {rest : List (Addr × Obj)} {ap dP ak ah dh ahc aw dw awc : Addr} {eP eh ew : List DictEntry} {nP nk nh nhc nw nwc : Nat} {vs : List Value} {bs : List (Array UInt8)}{ac dc : Addr} {ec : List DictEntry} {nc : Nat} {at_ : Addr} {t1 t2 t3 : Tok} {b : Array UInt8}
    (B : Below A₀ base outer h₀) (F : Fr h₀ L s.heap m) (X : (hd.heap_1 w.params).In h₀) (T : Top p loose mean mg mb h₀) (hk : cs.kind = .function)
    (N₁ : News h₀ L s.heap [(ac, instObj 449 dc), (dc, dictOf ec nc), (at_, { cls := .type "tuple", data := .seq #[.str (Str.ofString "path_challenge") t1, .bytes b t2] }), (ap, instObj 282 dP), (dP, dictOf eP nP), (ak, listOf #[.ref ah, .ref aw] nk), (ah, instObj 167 dh), (dh, dictOf eh nh), (ahc, listOf #[] nhc), (aw, instObj 167 dw), (dw, dictOf ew nw), (awc, listOf vs.toArray nwc)]) (N₂ : News h₀ L s.heap rest) (apart : ∀ q ∈ rest, q.1 ∉ ([(ac, instObj 449 dc), (dc, dictOf ec nc), (at_, { cls := .type "tuple", data := .seq #[.str (Str.ofString "path_challenge") t1, .bytes b t2] }), (ap, instObj 282 dP), (dP, dictOf eP nP), (ak, listOf #[.ref ah, .ref aw] nk), (ah, instObj 167 dh), (dh, dictOf eh nh), (ahc, listOf #[] nhc), (aw, instObj 167 dw), (dw, dictOf ew nw), (awc, listOf vs.toArray nwc)] : List (Addr × Obj)).map (·.1))
    (aP : AbsD eP 20) (aH : AbsD eh 20) (aW : AbsD ew 20) (hv : BAre vs bs) (gePknown : getL "known" eP = some (some (.ref ak))) (gehchallenges : getL "challenges" eh = some (some (.ref ahc))) (gewchallenges : getL "challenges" ew = some (some (.ref awc))) (aC : AbsD ec 60) (gecpaths : getL "paths" ec = some (some (.ref ap))) (mePonchallengelost : getL "on_challenge_lost" eP = some none) (hb : b ∉ bs) (hdp : dp + 10 < recursionLimit) (hun : un + 300 < cLine)
    (ret : ∀ (h' : Heap) (tk' : Nat), (∀ x ∈ ([(ac, instObj 449 dc), (dc, dictOf ec nc), (ap, instObj 282 dP), (dP, dictOf eP nP), (ak, listOf #[.ref ah, .ref aw] nk), (ah, instObj 167 dh), (dh, dictOf eh nh), (ahc, listOf #[] nhc), (aw, instObj 167 dw), (dw, dictOf ew nw), (awc, listOf vs.toArray nwc)] : List (Addr × Obj)), ∀ q ∈ rest, x.1 ≠ q.1) → Fr h₀ L h' m → News h₀ L h' [(ac, instObj 449 dc), (dc, dictOf ec nc), (ap, instObj 282 dP), (dP, dictOf eP nP), (ak, listOf #[.ref ah, .ref aw] nk), (ah, instObj 167 dh), (dh, dictOf eh nh), (ahc, listOf #[] nhc), (aw, instObj 167 dw), (dw, dictOf ew nw), (awc, listOf vs.toArray nwc)] → News h₀ L h' rest → Q (.none) { s with heap := h', toks := tk' }) :
    wpAny (model PySem.Challenge.rw_pf0276_01.row.toRowW.prog w) (ktrTop dp un gd cn cs L a ccd cl outer) (call (.ref 67) [.ref ac, .str (Str.ofString "application") t3, .ref at_]) Q E s := by
  revert X; k_fill; intro X
  obtain ⟨Pq, hPq⟩ : ∃ Pq : Addr → Value → List (Addr × Obj) → Prop, ∀ L' v news, Pq L' v news ↔ (v = .none ∧ news = [(ac, instObj 449 dc), (dc, dictOf ec nc), (ap, instObj 282 dP), (dP, dictOf eP nP), (ak, listOf #[.ref ah, .ref aw] nk), (ah, instObj 167 dh), (dh, dictOf eh nh), (ahc, listOf #[] nhc), (aw, instObj 167 dw), (dw, dictOf ew nw), (awc, listOf vs.toArray nwc)]) := ⟨fun L' v news => v = .none ∧ news = [(ac, instObj 449 dc), (dc, dictOf ec nc), (ap, instObj 282 dP), (dP, dictOf eP nP), (ak, listOf #[.ref ah, .ref aw] nk), (ah, instObj 167 dh), (dh, dictOf eh nh), (ahc, listOf #[] nhc), (aw, instObj 167 dw), (dw, dictOf ew nw), (awc, listOf vs.toArray nwc)], fun _ _ _ => Iff.rfl⟩
  k_dflt (refine' enter_frameC (K := hd.heap_1 w.params) [("conn", .ref ac), ("space", .str (Str.ofString "application") t3), ("frame", .ref at_)] (Pq) B F X T N₁ N₂ apart rfl rfl hk ?k6 ?k7 ?k8 ?k9 ?kB ?kD ?h ?c2 ?c3 ?c4 ?ret; (case k6 => k_is); (case k7 => k_is); (case k8 => ktr_room); (case k9 => exact BindsTo.of_eq rfl); (case kD => decide); (case kB => exact rfl); (case c2 => exact rfl); (case c3 => exact rfl); (case c4 => exact rfl))
  case ret =>
    rintro L' v news' h' tk' - - hl2 hpq F' N' R'
    obtain ⟨rfl, rfl⟩ := (hPq _ _ _).mp hpq
    exact ret  h' tk' hl2 F' N' R'
  intro g L' h₁ tk cells F N Y B X T l1; dsimp only [cellsFrom, bindL, bindC] at F Y; k_cells Y; (try simp only [List.cons_append, List.nil_append] at N)
  clear ret N₁ N₂ apart
  k_lt l1
  w_top off
  k_with_none
  (k_with "setAttr ref" => (k_here; k_dflt (refine' set_dict ?k1 ?k2 ?k3 ?k4 ?k5 ?k6 ?k7 ?k8 ?k9 ?k10 ?k11 ?k12 ?k13 ?_; (case k1 | k2 | k3 => k_asm); (case k4 => k_inst); (case k5 => exact rfl); (case k6 | k7 | k8 | k9 => k_is); (case k10 => exact getL_some _ _ (AbsD.plain (by ktr_rel))); (case k11 => exact put_abs (by ktr_rel)); (case k12 => k_upd); (case k13 => exact le_abs (by ktr_rel) (by omega)); k_whole; intro h'_w F'_w N'_w; (try k_sweep))))
  (k_with "compareOp In" => (k_here; (with_reducible show wpAny _ _ (compareOp CmpOp.In (Value.bytes _ _) (Value.ref _)) _ _ _); k_dflt (first
      | (refine' in_miss ?N ?m ?v ?b ?_; (case N => k_asm); (case m => k_mem); (case v => first | assumption | exact BAre.nil); (case b => first | assumption | exact List.not_mem_nil); k_whole)
      | (refine' in_hit ?N ?m ?v ?b ?_; (case N => k_asm); (case m => k_mem); (case v | b => assumption); k_whole))))
  (k_with "compareOp In str ref" => (k_here; (with_reducible show wpAny _ _ (compareOp CmpOp.In (Value.str _ _) (Value.ref _)) _ _ _); k_dflt (refine' in_K_strs ?F ?X ?l ?i ?b ?_; (case F | X => k_asm); (case l => k_is); (case i => kde_strs); (case b => exact rfl); k_whole)))
  (k_with "call ref" => (k_here; k_dflt (refine' CallsTo.use ?c ?B ?F ?X ?T ?kA ?kF ?k ?kh ?N ?s ?d ?u ?_; (case c => solve_by_elim only [hPr, hCh]); (case kA | kF => exact rfl); (case B | F | X | T => k_asm); (case k | kh => exact rfl); (case N => k_asm); (case s => k_subL); (case d => ktr_room); (case u => ktr_units); k_whole; intro t'_w h'_w tk'_w F'_w N'_w; (try k_sweep))))
  repeat' (first | (k_unfold; (try dsimp only)) | (k_end; wrow_close) | (walk1; (all_goals (try dsimp only))) | (dsimp only; walk1) | (leave1; walk_say "STEP leave1"; try dsimp only) | fail "no step")
  all_goals (exact End1.intro _ (by assumption) (by assumption) (by k_subL) ((hPq _ _ _).mpr ⟨rfl, rfl⟩))
set_option maxRecDepth 100000 in
set_option maxHeartbeats 1500000 in
theorem take {w : World} {p : Program} {loose : List Str} {mean : ExcName → Option Value} {mg mb : Str → Option Value} {dp un : Nat} {gd : Option (List Code)} {cn : Str} {cs : Scope} {a : Addr} {ccd : Value} {cl : List (Str × Addr)} {outer : List Env} {A₀ : Around} {base h₀ : Heap} {L : Addr} {m : Str → Option Value} {s : Shared} {Q E : Value → Shared → Prop} {rest : List (Addr × Obj)}  {ab al : Addr} {nb na : Nat} {xs : List Value} {zs : List Int} {c many : Int} {tc tm : Tok}
    (B : Below A₀ base outer h₀) (F : Fr h₀ L s.heap m) (X : (hd.heap_1 w.params).In h₀) (T : Top p loose mean mg mb h₀) (hk : cs.kind = .function)
    (N₁ : News h₀ L s.heap [(ab, listOf #[.ref al, .int (c) tc] nb), (al, listOf xs.toArray na)]) (N₂ : News h₀ L s.heap rest) (apart : ∀ q ∈ rest, q.1 ∉ ([(ab, listOf #[.ref al, .int (c) tc] nb), (al, listOf xs.toArray na)] : List (Addr × Obj)).map (·.1))
    (hx : IntsAre xs zs) (hxl : xs.length ≤ 30) (hc : 0 ≤ c) (hc2 : c ≤ 1000) (hm : 0 < many) (hm2 : many ≤ 100) (ho : @LT.lt Nat _ al ab) (hdp : dp + 10 < recursionLimit) (hun : un + 300 < cLine)
    (ret : ∀ (r : Int) (q1 : Tok) (q2 : Tok) (nb2 : Nat) (h' : Heap) (tk' : Nat), (∀ x ∈ ([(ab, listOf #[.ref al, .int (c + 1) q2] nb2), (al, listOf xs.toArray na)] : List (Addr × Obj)), ∀ q ∈ rest, x.1 ≠ q.1) → 0 ≤ r ∧ r < many → Fr h₀ L h' m → News h₀ L h' [(ab, listOf #[.ref al, .int (c + 1) q2] nb2), (al, listOf xs.toArray na)] → News h₀ L h' rest → Q (.int r q1) { s with heap := h', toks := tk' }) :
    wpAny (model PySem.Challenge.rw_pf0276_01.row.toRowW.prog w) (ktrTop dp un gd cn cs L a ccd cl outer) (call (.ref 467) [.ref ab, .int many tm]) Q E s := by
  revert X; k_fill; intro X
  obtain ⟨Pq, hPq⟩ : ∃ Pq : Addr → Value → List (Addr × Obj) → Prop, ∀ L' v news, Pq L' v news ↔ (∃ r : Int, ∃ q1 : Tok, ∃ q2 : Tok, ∃ nb2 : Nat, v = .int r q1 ∧ news = [(ab, listOf #[.ref al, .int (c + 1) q2] nb2), (al, listOf xs.toArray na)] ∧ 0 ≤ r ∧ r < many) := ⟨fun L' v news => ∃ r : Int, ∃ q1 : Tok, ∃ q2 : Tok, ∃ nb2 : Nat, v = .int r q1 ∧ news = [(ab, listOf #[.ref al, .int (c + 1) q2] nb2), (al, listOf xs.toArray na)] ∧ 0 ≤ r ∧ r < many, fun _ _ _ => Iff.rfl⟩
  k_dflt (refine' enter_frame (K := hd.heap_1 w.params) [("box", .ref ab), ("many", .int many tm)] (Pq) B F X T N₁ N₂ apart rfl rfl hk ?k6 ?k7 ?k8 ?k9 ?kB ?h ?c2 ?c3 ?c4 ?c5 ?ret; (case k6 => k_is); (case k7 => k_is); (case k8 => ktr_room); (case k9 => exact BindsTo.of_eq rfl); (case c5 => decide); (case kB => exact locs rfl); (case c2 => exact rfl); (case c3 => exact rfl); (case c4 => exact rfl))
  case ret =>
    rintro L' v news' h' tk' - - hl2 hpq F' N' R'
    obtain ⟨r, q1, q2, nb2, rfl, rfl, hfacts⟩ := (hPq _ _ _).mp hpq
    exact ret r q1 q2 nb2 h' tk' hl2 hfacts F' N' R'
  intro g L' h₁ F N B X T l1
  clear ret N₁ N₂ apart
  k_lt l1
  w_top off
  k_with_none
  (k_with "setAttr ref" => (k_here; k_dflt (refine' set_dict ?k1 ?k2 ?k3 ?k4 ?k5 ?k6 ?k7 ?k8 ?k9 ?k10 ?k11 ?k12 ?k13 ?_; (case k1 | k2 | k3 => k_asm); (case k4 => k_inst); (case k5 => exact rfl); (case k6 | k7 | k8 | k9 => k_is); (case k10 => exact getL_some _ _ (AbsD.plain (by ktr_rel))); (case k11 => exact put_abs (by ktr_rel)); (case k12 => k_upd); (case k13 => exact le_abs (by ktr_rel) (by omega)); k_whole; intro h'_w F'_w N'_w; (try k_sweep))))
  (k_with "compareOp In" => (k_here; (with_reducible show wpAny _ _ (compareOp CmpOp.In (Value.bytes _ _) (Value.ref _)) _ _ _); k_dflt (first
      | (refine' in_miss ?N ?m ?v ?b ?_; (case N => k_asm); (case m => k_mem); (case v => first | assumption | exact BAre.nil); (case b => first | assumption | exact List.not_mem_nil); k_whole)
      | (refine' in_hit ?N ?m ?v ?b ?_; (case N => k_asm); (case m => k_mem); (case v | b => assumption); k_whole))))
  (k_with "compareOp In str ref" => (k_here; (with_reducible show wpAny _ _ (compareOp CmpOp.In (Value.str _ _) (Value.ref _)) _ _ _); k_dflt (refine' in_K_strs ?F ?X ?l ?i ?b ?_; (case F | X => k_asm); (case l => k_is); (case i => kde_strs); (case b => exact rfl); k_whole)))
  (k_with "call ref" => (k_here; k_dflt (refine' CallsTo.use ?c ?B ?F ?X ?T ?kA ?kF ?k ?kh ?N ?s ?d ?u ?_; (case c => solve_by_elim only [hPr, hCh]); (case kA | kF => exact rfl); (case B | F | X | T => k_asm); (case k | kh => exact rfl); (case N => k_asm); (case s => k_subL); (case d => ktr_room); (case u => ktr_units); k_whole; intro t'_w h'_w tk'_w F'_w N'_w; (try k_sweep))))
  (k_with "call builtin:len" => (k_here; (with_reducible show wpAny _ _ (call (Value.builtin "len") [Value.ref _]) _ _ _); k_dflt (refine' kst_len ?k1 ?k2 ?k3 ?k4 ?_; (case k1 => k_asm); (case k2 => k_mem); (case k3 => exact rfl); (case k4 => omega)); k_whole))
  repeat' (first | (k_unfold; (try dsimp only)) | (k_end; wrow_close) | (walk1; (all_goals (try dsimp only))) | (dsimp only; walk1) | (leave1; walk_say "STEP leave1"; try dsimp only) | fail "no step")
  all_goals (exact End1.intro _ (by assumption) (by assumption) (by k_subL) ((hPq _ _ _).mpr ⟨_, _, _, _, rfl, rfl, ⟨Int.fmod_nonneg_of_pos _ hm, Int.fmod_lt_of_pos _ hm⟩⟩))
set_option maxRecDepth 100000 in
set_option maxHeartbeats 1500000 in
theorem next_none {w : World} {p : Program} {loose : List Str} {mean : ExcName → Option Value} {mg mb : Str → Option Value} {dp un : Nat} {gd : Option (List Code)} {cn : Str} {cs : Scope} {a : Addr} {ccd : Value} {cl : List (Str × Addr)} {outer : List Env} {A₀ : Around} {base h₀ : Heap} {L : Addr} {m : Str → Option Value} {s : Shared} {Q E : Value → Shared → Prop} {rest : List (Addr × Obj)} {ap dP ak ah dh ahc aw dw awc : Addr} {eP eh ew : List DictEntry} {nP nk nh nhc nw nwc : Nat} {vs : List Value} {bs : List (Array UInt8)}
    (B : Below A₀ base outer h₀) (F : Fr h₀ L s.heap m) (X : (hd.heap_1 w.params).In h₀) (T : Top p loose mean mg mb h₀) (hk : cs.kind = .function)
    (N₁ : News h₀ L s.heap [(ap, instObj 282 dP), (dP, dictOf eP nP), (ak, listOf #[.ref ah, .ref aw] nk), (ah, instObj 167 dh), (dh, dictOf eh nh), (ahc, listOf #[] nhc), (aw, instObj 167 dw), (dw, dictOf ew nw), (awc, listOf vs.toArray nwc)]) (N₂ : News h₀ L s.heap rest) (apart : ∀ q ∈ rest, q.1 ∉ ([(ap, instObj 282 dP), (dP, dictOf eP nP), (ak, listOf #[.ref ah, .ref aw] nk), (ah, instObj 167 dh), (dh, dictOf eh nh), (ahc, listOf #[] nhc), (aw, instObj 167 dw), (dw, dictOf ew nw), (awc, listOf vs.toArray nwc)] : List (Addr × Obj)).map (·.1))
    (aP : AbsD eP 20) (aH : AbsD eh 20) (aW : AbsD ew 20) (hv : BAre vs bs) (gePknown : getL "known" eP = some (some (.ref ak))) (gehchallenges : getL "challenges" eh = some (some (.ref ahc))) (gewchallenges : getL "challenges" ew = some (some (.ref awc))) (gehdeadline : getL "deadline" eh = some (some (.none))) (gewdeadline : getL "deadline" ew = some (some (.none))) (hdp : dp + 10 < recursionLimit) (hun : un + 300 < cLine)
    (ret : ∀ (h' : Heap) (tk' : Nat), (∀ x ∈ ([(ap, instObj 282 dP), (dP, dictOf eP nP), (ak, listOf #[.ref ah, .ref aw] nk), (ah, instObj 167 dh), (dh, dictOf eh nh), (ahc, listOf #[] nhc), (aw, instObj 167 dw), (dw, dictOf ew nw), (awc, listOf vs.toArray nwc)] : List (Addr × Obj)), ∀ q ∈ rest, x.1 ≠ q.1) → Fr h₀ L h' m → News h₀ L h' [(ap, instObj 282 dP), (dP, dictOf eP nP), (ak, listOf #[.ref ah, .ref aw] nk), (ah, instObj 167 dh), (dh, dictOf eh nh), (ahc, listOf #[] nhc), (aw, instObj 167 dw), (dw, dictOf ew nw), (awc, listOf vs.toArray nwc)] → News h₀ L h' rest → Q (.none) { s with heap := h', toks := tk' }) :
    wpAny (model PySem.Challenge.rw_pf0276_01.row.toRowW.prog w) (ktrTop dp un gd cn cs L a ccd cl outer) (call (.ref 274) [.ref ap]) Q E s := by
  revert X; k_fill; intro X
  obtain ⟨Pq, hPq⟩ : ∃ Pq : Addr → Value → List (Addr × Obj) → Prop, ∀ L' v news, Pq L' v news ↔ (v = .none ∧ news = [(ap, instObj 282 dP), (dP, dictOf eP nP), (ak, listOf #[.ref ah, .ref aw] nk), (ah, instObj 167 dh), (dh, dictOf eh nh), (ahc, listOf #[] nhc), (aw, instObj 167 dw), (dw, dictOf ew nw), (awc, listOf vs.toArray nwc)]) := ⟨fun L' v news => v = .none ∧ news = [(ap, instObj 282 dP), (dP, dictOf eP nP), (ak, listOf #[.ref ah, .ref aw] nk), (ah, instObj 167 dh), (dh, dictOf eh nh), (ahc, listOf #[] nhc), (aw, instObj 167 dw), (dw, dictOf ew nw), (awc, listOf vs.toArray nwc)], fun _ _ _ => Iff.rfl⟩
  k_dflt (refine' enter_frame (K := hd.heap_1 w.params) [("self", .ref ap)] (Pq) B F X T N₁ N₂ apart rfl rfl hk ?k6 ?k7 ?k8 ?k9 ?kB ?h ?c2 ?c3 ?c4 ?c5 ?ret; (case k6 => k_is); (case k7 => k_is); (case k8 => ktr_room); (case k9 => exact BindsTo.of_eq rfl); (case c5 => decide); (case kB => exact locs rfl); (case c2 => exact rfl); (case c3 => exact rfl); (case c4 => exact rfl))
  case ret =>
    rintro L' v news' h' tk' - - hl2 hpq F' N' R'
    obtain ⟨rfl, rfl⟩ := (hPq _ _ _).mp hpq
    exact ret  h' tk' hl2 F' N' R'
  intro g L' h₁ F N B X T l1
  clear ret N₁ N₂ apart
  k_lt l1
  w_top off
  k_with_none
  (k_with "setAttr ref" => (k_here; k_dflt (refine' set_dict ?k1 ?k2 ?k3 ?k4 ?k5 ?k6 ?k7 ?k8 ?k9 ?k10 ?k11 ?k12 ?k13 ?_; (case k1 | k2 | k3 => k_asm); (case k4 => k_inst); (case k5 => exact rfl); (case k6 | k7 | k8 | k9 => k_is); (case k10 => exact getL_some _ _ (AbsD.plain (by ktr_rel))); (case k11 => exact put_abs (by ktr_rel)); (case k12 => k_upd); (case k13 => exact le_abs (by ktr_rel) (by omega)); k_whole; intro h'_w F'_w N'_w; (try k_sweep))))
  (k_with "compareOp In" => (k_here; (with_reducible show wpAny _ _ (compareOp CmpOp.In (Value.bytes _ _) (Value.ref _)) _ _ _); k_dflt (first
      | (refine' in_miss ?N ?m ?v ?b ?_; (case N => k_asm); (case m => k_mem); (case v => first | assumption | exact BAre.nil); (case b => first | assumption | exact List.not_mem_nil); k_whole)
      | (refine' in_hit ?N ?m ?v ?b ?_; (case N => k_asm); (case m => k_mem); (case v | b => assumption); k_whole))))
  (k_with "compareOp In str ref" => (k_here; (with_reducible show wpAny _ _ (compareOp CmpOp.In (Value.str _ _) (Value.ref _)) _ _ _); k_dflt (refine' in_K_strs ?F ?X ?l ?i ?b ?_; (case F | X => k_asm); (case l => k_is); (case i => kde_strs); (case b => exact rfl); k_whole)))
  (k_with "call ref" => (k_here; k_dflt (refine' CallsTo.use ?c ?B ?F ?X ?T ?kA ?kF ?k ?kh ?N ?s ?d ?u ?_; (case c => solve_by_elim only [hPr, hCh]); (case kA | kF => exact rfl); (case B | F | X | T => k_asm); (case k | kh => exact rfl); (case N => k_asm); (case s => k_subL); (case d => ktr_room); (case u => ktr_units); k_whole; intro t'_w h'_w tk'_w F'_w N'_w; (try k_sweep))))
  repeat' (first | (k_unfold; (try dsimp only)) | (k_end; wrow_close) | (walk1; (all_goals (try dsimp only))) | (dsimp only; walk1) | (leave1; walk_say "STEP leave1"; try dsimp only) | fail "no step")
  all_goals (exact End1.intro _ (by assumption) (by assumption) (by k_subL) ((hPq _ _ _).mpr ⟨rfl, rfl⟩))
set_option maxRecDepth 100000 in
set_option maxHeartbeats 1500000 in
theorem next_tried {w : World} {p : Program} {loose : List Str} {mean : ExcName → Option Value} {mg mb : Str → Option Value} {dp un : Nat} {gd : Option (List Code)} {cn : Str} {cs : Scope} {a : Addr} {ccd : Value} {cl : List (Str × Addr)} {outer : List Env} {A₀ : Around} {base h₀ : Heap} {L : Addr} {m : Str → Option Value} {s : Shared} {Q E : Value → Shared → Prop} {rest : List (Addr × Obj)} {ap dP ak ah dh ahc aw dw awc : Addr} {eP eh ew : List DictEntry} {nP nk nh nhc nw nwc : Nat} {vs : List Value} {bs : List (Array UInt8)} {d : Int} {td : Tok}
    (B : Below A₀ base outer h₀) (F : Fr h₀ L s.heap m) (X : (hd.heap_1 w.params).In h₀) (T : Top p loose mean mg mb h₀) (hk : cs.kind = .function)
    (N₁ : News h₀ L s.heap [(ap, instObj 282 dP), (dP, dictOf eP nP), (ak, listOf #[.ref ah, .ref aw] nk), (ah, instObj 167 dh), (dh, dictOf eh nh), (ahc, listOf #[] nhc), (aw, instObj 167 dw), (dw, dictOf ew nw), (awc, listOf vs.toArray nwc)]) (N₂ : News h₀ L s.heap rest) (apart : ∀ q ∈ rest, q.1 ∉ ([(ap, instObj 282 dP), (dP, dictOf eP nP), (ak, listOf #[.ref ah, .ref aw] nk), (ah, instObj 167 dh), (dh, dictOf eh nh), (ahc, listOf #[] nhc), (aw, instObj 167 dw), (dw, dictOf ew nw), (awc, listOf vs.toArray nwc)] : List (Addr × Obj)).map (·.1))
    (aP : AbsD eP 20) (aH : AbsD eh 20) (aW : AbsD ew 20) (hv : BAre vs bs) (gePknown : getL "known" eP = some (some (.ref ak))) (gehchallenges : getL "challenges" eh = some (some (.ref ahc))) (gewchallenges : getL "challenges" ew = some (some (.ref awc))) (gehdeadline : getL "deadline" eh = some (some (.none))) (gewdeadline : getL "deadline" ew = some (some (.int d td))) (hdp : dp + 10 < recursionLimit) (hun : un + 300 < cLine)
    (ret : ∀ (q7 : Tok) (h' : Heap) (tk' : Nat), (∀ x ∈ ([(ap, instObj 282 dP), (dP, dictOf eP nP), (ak, listOf #[.ref ah, .ref aw] nk), (ah, instObj 167 dh), (dh, dictOf eh nh), (ahc, listOf #[] nhc), (aw, instObj 167 dw), (dw, dictOf ew nw), (awc, listOf vs.toArray nwc)] : List (Addr × Obj)), ∀ q ∈ rest, x.1 ≠ q.1) → Fr h₀ L h' m → News h₀ L h' [(ap, instObj 282 dP), (dP, dictOf eP nP), (ak, listOf #[.ref ah, .ref aw] nk), (ah, instObj 167 dh), (dh, dictOf eh nh), (ahc, listOf #[] nhc), (aw, instObj 167 dw), (dw, dictOf ew nw), (awc, listOf vs.toArray nwc)] → News h₀ L h' rest → Q (.int d q7) { s with heap := h', toks := tk' }) :
    wpAny (model PySem.Challenge.rw_pf0276_01.row.toRowW.prog w) (ktrTop dp un gd cn cs L a ccd cl outer) (call (.ref 274) [.ref ap]) Q E s := by
  revert X; k_fill; intro X
  obtain ⟨Pq, hPq⟩ : ∃ Pq : Addr → Value → List (Addr × Obj) → Prop, ∀ L' v news, Pq L' v news ↔ (∃ q7 : Tok, v = .int d q7 ∧ news = [(ap, instObj 282 dP), (dP, dictOf eP nP), (ak, listOf #[.ref ah, .ref aw] nk), (ah, instObj 167 dh), (dh, dictOf eh nh), (ahc, listOf #[] nhc), (aw, instObj 167 dw), (dw, dictOf ew nw), (awc, listOf vs.toArray nwc)]) := ⟨fun L' v news => ∃ q7 : Tok, v = .int d q7 ∧ news = [(ap, instObj 282 dP), (dP, dictOf eP nP), (ak, listOf #[.ref ah, .ref aw] nk), (ah, instObj 167 dh), (dh, dictOf eh nh), (ahc, listOf #[] nhc), (aw, instObj 167 dw), (dw, dictOf ew nw), (awc, listOf vs.toArray nwc)], fun _ _ _ => Iff.rfl⟩
  k_dflt (refine' enter_frame (K := hd.heap_1 w.params) [("self", .ref ap)] (Pq) B F X T N₁ N₂ apart rfl rfl hk ?k6 ?k7 ?k8 ?k9 ?kB ?h ?c2 ?c3 ?c4 ?c5 ?ret; (case k6 => k_is); (case k7 => k_is); (case k8 => ktr_room); (case k9 => exact BindsTo.of_eq rfl); (case c5 => decide); (case kB => exact locs rfl); (case c2 => exact rfl); (case c3 => exact rfl); (case c4 => exact rfl))
  case ret =>
    rintro L' v news' h' tk' - - hl2 hpq F' N' R'
    obtain ⟨q7, rfl, rfl⟩ := (hPq _ _ _).mp hpq
    exact ret q7 h' tk' hl2 F' N' R'
  intro g L' h₁ F N B X T l1
  clear ret N₁ N₂ apart
  k_lt l1
  w_top off
  k_with_none
  (k_with "setAttr ref" => (k_here; k_dflt (refine' set_dict ?k1 ?k2 ?k3 ?k4 ?k5 ?k6 ?k7 ?k8 ?k9 ?k10 ?k11 ?k12 ?k13 ?_; (case k1 | k2 | k3 => k_asm); (case k4 => k_inst); (case k5 => exact rfl); (case k6 | k7 | k8 | k9 => k_is); (case k10 => exact getL_some _ _ (AbsD.plain (by ktr_rel))); (case k11 => exact put_abs (by ktr_rel)); (case k12 => k_upd); (case k13 => exact le_abs (by ktr_rel) (by omega)); k_whole; intro h'_w F'_w N'_w; (try k_sweep))))
  (k_with "compareOp In" => (k_here; (with_reducible show wpAny _ _ (compareOp CmpOp.In (Value.bytes _ _) (Value.ref _)) _ _ _); k_dflt (first
      | (refine' in_miss ?N ?m ?v ?b ?_; (case N => k_asm); (case m => k_mem); (case v => first | assumption | exact BAre.nil); (case b => first | assumption | exact List.not_mem_nil); k_whole)
      | (refine' in_hit ?N ?m ?v ?b ?_; (case N => k_asm); (case m => k_mem); (case v | b => assumption); k_whole))))
  (k_with "compareOp In str ref" => (k_here; (with_reducible show wpAny _ _ (compareOp CmpOp.In (Value.str _ _) (Value.ref _)) _ _ _); k_dflt (refine' in_K_strs ?F ?X ?l ?i ?b ?_; (case F | X => k_asm); (case l => k_is); (case i => kde_strs); (case b => exact rfl); k_whole)))
  (k_with "call ref" => (k_here; k_dflt (refine' CallsTo.use ?c ?B ?F ?X ?T ?kA ?kF ?k ?kh ?N ?s ?d ?u ?_; (case c => solve_by_elim only [hPr, hCh]); (case kA | kF => exact rfl); (case B | F | X | T => k_asm); (case k | kh => exact rfl); (case N => k_asm); (case s => k_subL); (case d => ktr_room); (case u => ktr_units); k_whole; intro t'_w h'_w tk'_w F'_w N'_w; (try k_sweep))))
  repeat' (first | (k_unfold; (try dsimp only)) | (k_end; wrow_close) | (walk1; (all_goals (try dsimp only))) | (dsimp only; walk1) | (leave1; walk_say "STEP leave1"; try dsimp only) | fail "no step")
  all_goals ((subst_vars); exact End1.intro _ (by assumption) (by assumption) (by k_subL) ((hPq _ _ _).mpr ⟨_, rfl, rfl⟩))
set_option maxRecDepth 100000 in
set_option maxHeartbeats 1500000 in
theorem resp_hit {w : World} {p : Program} {loose : List Str} {mean : ExcName → Option Value} {mg mb : Str → Option Value} {dp un : Nat} {gd : Option (List Code)} {cn : Str} {cs : Scope} {a : Addr} {ccd : Value} {cl : List (Str × Addr)} {outer : List Env} {A₀ : Around} {base h₀ : Heap} {L : Addr} {m : Str → Option Value} {s : Shared} {Q E : Value → Shared → Prop} {rest : List (Addr × Obj)} {zz : Addr} {oz : Obj} {ap dP ak ah dh ahc aw dw awc : Addr} {eP eh ew : List DictEntry} {nP nk nh nhc nw nwc : Nat} {vs : List Value} {bs : List (Array UInt8)} {t1 t2 t3 : Tok} {b : Array UInt8}{th tw ts : Tok} {wv dv fv sv lv : Value}
    (B : Below A₀ base outer h₀) (F : Fr h₀ L s.heap m) (X : (hd.heap_1 w.params).In h₀) (T : Top p loose mean mg mb h₀) (hk : cs.kind = .function)
    (N₁ : News h₀ L s.heap [(ap, instObj 282 dP), (dP, dictOf eP nP), (ak, listOf #[.ref ah, .ref aw] nk), (ah, instObj 167 dh), (dh, dictOf eh nh), (ahc, listOf #[] nhc), (aw, instObj 167 dw), (dw, dictOf ew nw), (awc, listOf vs.toArray nwc), (zz, oz)]) (N₂ : News h₀ L s.heap rest) (apart : ∀ q ∈ rest, q.1 ∉ ([(ap, instObj 282 dP), (dP, dictOf eP nP), (ak, listOf #[.ref ah, .ref aw] nk), (ah, instObj 167 dh), (dh, dictOf eh nh), (ahc, listOf #[] nhc), (aw, instObj 167 dw), (dw, dictOf ew nw), (awc, listOf vs.toArray nwc), (zz, oz)] : List (Addr × Obj)).map (·.1))
    (aP : AbsD eP 20) (aH : AbsD eh 20) (aW : AbsD ew 20) (hv : BAre vs bs) (gePknown : getL "known" eP = some (some (.ref ak))) (gehchallenges : getL "challenges" eh = some (some (.ref ahc))) (gewchallenges : getL "challenges" ew = some (some (.ref awc))) (gehaddress : getL "address" eh = some (some (.str (Str.ofString "home") th))) (gewaddress : getL "address" ew = some (some (.str (Str.ofString "away") tw))) (gewstate : getL "state" ew = some (some (sv))) (gewisfree : getL "is_free" ew = some (some (fv))) (gewdeadline : getL "deadline" ew = some (some (dv))) (gewwantsmore : getL "wants_more" ew = some (some (wv))) (mewprove : getL "prove" ew = some none) (gePactive : getL "active" eP = some (some (.ref aw))) (gePlastproven : getL "last_proven" eP = some (some (lv))) (hb : b ∈ bs) (ho : @LT.lt Nat _ dP ap ∧ @LT.lt Nat _ ap dh ∧ @LT.lt Nat _ dh ah ∧ @LT.lt Nat _ ah ahc ∧ @LT.lt Nat _ ahc ak ∧ @LT.lt Nat _ ak dw ∧ @LT.lt Nat _ dw aw ∧ @LT.lt Nat _ aw awc) (hzz : @LT.lt Nat _ awc zz) (hdp : dp + 10 < recursionLimit) (hun : un + 300 < cLine)
    (ret : ∀ (q0 : Tok) (q1 : Tok) (q2 : Tok) (q3 : Tok) (q4 : Tok) (q5 : Tok) (q6 : Tok) (an : Addr) (nP2 : Nat) (nw2 : Nat) (na : Nat) (h' : Heap) (tk' : Nat), (∀ x ∈ ([(ap, instObj 282 dP), (dP, dictOf (putL "last_proven" (PyData.keyHash w.params "last_proven") (.str "last_proven" q6) (.ref aw) eP) nP2), (ak, listOf #[.ref ah, .ref aw] nk), (ah, instObj 167 dh), (dh, dictOf eh nh), (ahc, listOf #[] nhc), (aw, instObj 167 dw), (dw, dictOf (putL "wants_more" (PyData.keyHash w.params "wants_more") (.str "wants_more" q5) (.bool false) (putL "deadline" (PyData.keyHash w.params "deadline") (.str "deadline" q4) (.none) (putL "challenges" (PyData.keyHash w.params "challenges") (.str "challenges" q3) (.ref an) (putL "is_free" (PyData.keyHash w.params "is_free") (.str "is_free" q2) (.bool true) (putL "state" (PyData.keyHash w.params "state") (.str "state" q1) (.str (Str.ofString "proven") q0) ew))))) nw2), (an, listOf #[] na), (zz, oz)] : List (Addr × Obj)), ∀ q ∈ rest, x.1 ≠ q.1) → @LT.lt Nat _ aw an ∧ @LT.lt Nat _ zz an → Fr h₀ L h' m → News h₀ L h' [(ap, instObj 282 dP), (dP, dictOf (putL "last_proven" (PyData.keyHash w.params "last_proven") (.str "last_proven" q6) (.ref aw) eP) nP2), (ak, listOf #[.ref ah, .ref aw] nk), (ah, instObj 167 dh), (dh, dictOf eh nh), (ahc, listOf #[] nhc), (aw, instObj 167 dw), (dw, dictOf (putL "wants_more" (PyData.keyHash w.params "wants_more") (.str "wants_more" q5) (.bool false) (putL "deadline" (PyData.keyHash w.params "deadline") (.str "deadline" q4) (.none) (putL "challenges" (PyData.keyHash w.params "challenges") (.str "challenges" q3) (.ref an) (putL "is_free" (PyData.keyHash w.params "is_free") (.str "is_free" q2) (.bool true) (putL "state" (PyData.keyHash w.params "state") (.str "state" q1) (.str (Str.ofString "proven") q0) ew))))) nw2), (an, listOf #[] na), (zz, oz)] → News h₀ L h' rest → Q (.ref aw) { s with heap := h', toks := tk' }) :
    wpAny (model PySem.Challenge.rw_pf0276_01.row.toRowW.prog w) (ktrTop dp un gd cn cs L a ccd cl outer) (call (.ref 262) [.ref ap, .bytes b t2]) Q E s := by
  revert X; k_fill; intro X
  obtain ⟨Pq, hPq⟩ : ∃ Pq : Addr → Value → List (Addr × Obj) → Prop, ∀ L' v news, Pq L' v news ↔ (∃ q0 : Tok, ∃ q1 : Tok, ∃ q2 : Tok, ∃ q3 : Tok, ∃ q4 : Tok, ∃ q5 : Tok, ∃ q6 : Tok, ∃ an : Addr, ∃ nP2 : Nat, ∃ nw2 : Nat, ∃ na : Nat, v = .ref aw ∧ news = [(ap, instObj 282 dP), (dP, dictOf (putL "last_proven" (PyData.keyHash w.params "last_proven") (.str "last_proven" q6) (.ref aw) eP) nP2), (ak, listOf #[.ref ah, .ref aw] nk), (ah, instObj 167 dh), (dh, dictOf eh nh), (ahc, listOf #[] nhc), (aw, instObj 167 dw), (dw, dictOf (putL "wants_more" (PyData.keyHash w.params "wants_more") (.str "wants_more" q5) (.bool false) (putL "deadline" (PyData.keyHash w.params "deadline") (.str "deadline" q4) (.none) (putL "challenges" (PyData.keyHash w.params "challenges") (.str "challenges" q3) (.ref an) (putL "is_free" (PyData.keyHash w.params "is_free") (.str "is_free" q2) (.bool true) (putL "state" (PyData.keyHash w.params "state") (.str "state" q1) (.str (Str.ofString "proven") q0) ew))))) nw2), (an, listOf #[] na), (zz, oz)] ∧ @LT.lt Nat _ aw an ∧ @LT.lt Nat _ zz an) := ⟨fun L' v news => ∃ q0 : Tok, ∃ q1 : Tok, ∃ q2 : Tok, ∃ q3 : Tok, ∃ q4 : Tok, ∃ q5 : Tok, ∃ q6 : Tok, ∃ an : Addr, ∃ nP2 : Nat, ∃ nw2 : Nat, ∃ na : Nat, v = .ref aw ∧ news = [(ap, instObj 282 dP), (dP, dictOf (putL "last_proven" (PyData.keyHash w.params "last_proven") (.str "last_proven" q6) (.ref aw) eP) nP2), (ak, listOf #[.ref ah, .ref aw] nk), (ah, instObj 167 dh), (dh, dictOf eh nh), (ahc, listOf #[] nhc), (aw, instObj 167 dw), (dw, dictOf (putL "wants_more" (PyData.keyHash w.params "wants_more") (.str "wants_more" q5) (.bool false) (putL "deadline" (PyData.keyHash w.params "deadline") (.str "deadline" q4) (.none) (putL "challenges" (PyData.keyHash w.params "challenges") (.str "challenges" q3) (.ref an) (putL "is_free" (PyData.keyHash w.params "is_free") (.str "is_free" q2) (.bool true) (putL "state" (PyData.keyHash w.params "state") (.str "state" q1) (.str (Str.ofString "proven") q0) ew))))) nw2), (an, listOf #[] na), (zz, oz)] ∧ @LT.lt Nat _ aw an ∧ @LT.lt Nat _ zz an, fun _ _ _ => Iff.rfl⟩
  k_dflt (refine' enter_frame (K := hd.heap_1 w.params) [("self", .ref ap), ("data", .bytes b t2)] (Pq) B F X T N₁ N₂ apart rfl rfl hk ?k6 ?k7 ?k8 ?k9 ?kB ?h ?c2 ?c3 ?c4 ?c5 ?ret; (case k6 => k_is); (case k7 => k_is); (case k8 => ktr_room); (case k9 => exact BindsTo.of_eq rfl); (case c5 => decide); (case kB => exact locs rfl); (case c2 => exact rfl); (case c3 => exact rfl); (case c4 => exact rfl))
  case ret =>
    rintro L' v news' h' tk' - - hl2 hpq F' N' R'
    obtain ⟨q0, q1, q2, q3, q4, q5, q6, an, nP2, nw2, na, rfl, rfl, hfacts⟩ := (hPq _ _ _).mp hpq
    exact ret q0 q1 q2 q3 q4 q5 q6 an nP2 nw2 na h' tk' hl2 hfacts F' N' R'
  intro g L' h₁ F N B X T l1
  clear ret N₁ N₂ apart
  k_lt l1
  w_top off
  k_with_none
  (k_with "setAttr ref" => (k_here; k_dflt (refine' set_dict ?k1 ?k2 ?k3 ?k4 ?k5 ?k6 ?k7 ?k8 ?k9 ?k10 ?k11 ?k12 ?k13 ?_; (case k1 | k2 | k3 => k_asm); (case k4 => k_inst); (case k5 => exact rfl); (case k6 | k7 | k8 | k9 => k_is); (case k10 => exact getL_some _ _ (AbsD.plain (by ktr_rel))); (case k11 => exact put_abs (by ktr_rel)); (case k12 => k_upd); (case k13 => exact le_abs (by ktr_rel) (by omega)); k_whole; intro h'_w F'_w N'_w; (try k_sweep))))
  (k_with "compareOp In" => (k_here; (with_reducible show wpAny _ _ (compareOp CmpOp.In (Value.bytes _ _) (Value.ref _)) _ _ _); k_dflt (first
      | (refine' in_miss ?N ?m ?v ?b ?_; (case N => k_asm); (case m => k_mem); (case v => first | assumption | exact BAre.nil); (case b => first | assumption | exact List.not_mem_nil); k_whole)
      | (refine' in_hit ?N ?m ?v ?b ?_; (case N => k_asm); (case m => k_mem); (case v | b => assumption); k_whole))))
  (k_with "compareOp In str ref" => (k_here; (with_reducible show wpAny _ _ (compareOp CmpOp.In (Value.str _ _) (Value.ref _)) _ _ _); k_dflt (refine' in_K_strs ?F ?X ?l ?i ?b ?_; (case F | X => k_asm); (case l => k_is); (case i => kde_strs); (case b => exact rfl); k_whole)))
  (k_with "call ref" => (k_here; k_dflt (refine' CallsTo.use ?c ?B ?F ?X ?T ?kA ?kF ?k ?kh ?N ?s ?d ?u ?_; (case c => solve_by_elim only [hPr, hCh]); (case kA | kF => exact rfl); (case B | F | X | T => k_asm); (case k | kh => exact rfl); (case N => k_asm); (case s => k_subL); (case d => ktr_room); (case u => ktr_units); k_whole; intro t'_w h'_w tk'_w F'_w N'_w; (try k_sweep))))
  repeat' (first | (k_unfold; (try dsimp only)) | (k_end; wrow_close) | (walk1; (all_goals (try dsimp only))) | (dsimp only; walk1) | (leave1; walk_say "STEP leave1"; try dsimp only) | fail "no step")
  all_goals (exact End1.intro _ (by assumption) (by assumption) (by k_subL) ((hPq _ _ _).mpr ⟨_, _, _, _, _, _, _, _, _, _, _, rfl, rfl, by omega⟩))
set_option maxRecDepth 100000 in
set_option maxHeartbeats 1500000 in
theorem resp_miss {w : World} {p : Program} {loose : List Str} {mean : ExcName → Option Value} {mg mb : Str → Option Value} {dp un : Nat} {gd : Option (List Code)} {cn : Str} {cs : Scope} {a : Addr} {ccd : Value} {cl : List (Str × Addr)} {outer : List Env} {A₀ : Around} {base h₀ : Heap} {L : Addr} {m : Str → Option Value} {s : Shared} {Q E : Value → Shared → Prop} {rest : List (Addr × Obj)} {ap dP ak ah dh ahc aw dw awc : Addr} {eP eh ew : List DictEntry} {nP nk nh nhc nw nwc : Nat} {vs : List Value} {bs : List (Array UInt8)} {t1 t2 t3 : Tok} {b : Array UInt8}
    (B : Below A₀ base outer h₀) (F : Fr h₀ L s.heap m) (X : (hd.heap_1 w.params).In h₀) (T : Top p loose mean mg mb h₀) (hk : cs.kind = .function)
    (N₁ : News h₀ L s.heap [(ap, instObj 282 dP), (dP, dictOf eP nP), (ak, listOf #[.ref ah, .ref aw] nk), (ah, instObj 167 dh), (dh, dictOf eh nh), (ahc, listOf #[] nhc), (aw, instObj 167 dw), (dw, dictOf ew nw), (awc, listOf vs.toArray nwc)]) (N₂ : News h₀ L s.heap rest) (apart : ∀ q ∈ rest, q.1 ∉ ([(ap, instObj 282 dP), (dP, dictOf eP nP), (ak, listOf #[.ref ah, .ref aw] nk), (ah, instObj 167 dh), (dh, dictOf eh nh), (ahc, listOf #[] nhc), (aw, instObj 167 dw), (dw, dictOf ew nw), (awc, listOf vs.toArray nwc)] : List (Addr × Obj)).map (·.1))
    (aP : AbsD eP 20) (aH : AbsD eh 20) (aW : AbsD ew 20) (hv : BAre vs bs) (gePknown : getL "known" eP = some (some (.ref ak))) (gehchallenges : getL "challenges" eh = some (some (.ref ahc))) (gewchallenges : getL "challenges" ew = some (some (.ref awc))) (hb : b ∉ bs) (hdp : dp + 10 < recursionLimit) (hun : un + 300 < cLine)
    (ret : ∀ (h' : Heap) (tk' : Nat), (∀ x ∈ ([(ap, instObj 282 dP), (dP, dictOf eP nP), (ak, listOf #[.ref ah, .ref aw] nk), (ah, instObj 167 dh), (dh, dictOf eh nh), (ahc, listOf #[] nhc), (aw, instObj 167 dw), (dw, dictOf ew nw), (awc, listOf vs.toArray nwc)] : List (Addr × Obj)), ∀ q ∈ rest, x.1 ≠ q.1) → Fr h₀ L h' m → News h₀ L h' [(ap, instObj 282 dP), (dP, dictOf eP nP), (ak, listOf #[.ref ah, .ref aw] nk), (ah, instObj 167 dh), (dh, dictOf eh nh), (ahc, listOf #[] nhc), (aw, instObj 167 dw), (dw, dictOf ew nw), (awc, listOf vs.toArray nwc)] → News h₀ L h' rest → Q (.none) { s with heap := h', toks := tk' }) :
    wpAny (model PySem.Challenge.rw_pf0276_01.row.toRowW.prog w) (ktrTop dp un gd cn cs L a ccd cl outer) (call (.ref 262) [.ref ap, .bytes b t2]) Q E s := by
  revert X; k_fill; intro X
  obtain ⟨Pq, hPq⟩ : ∃ Pq : Addr → Value → List (Addr × Obj) → Prop, ∀ L' v news, Pq L' v news ↔ (v = .none ∧ news = [(ap, instObj 282 dP), (dP, dictOf eP nP), (ak, listOf #[.ref ah, .ref aw] nk), (ah, instObj 167 dh), (dh, dictOf eh nh), (ahc, listOf #[] nhc), (aw, instObj 167 dw), (dw, dictOf ew nw), (awc, listOf vs.toArray nwc)]) := ⟨fun L' v news => v = .none ∧ news = [(ap, instObj 282 dP), (dP, dictOf eP nP), (ak, listOf #[.ref ah, .ref aw] nk), (ah, instObj 167 dh), (dh, dictOf eh nh), (ahc, listOf #[] nhc), (aw, instObj 167 dw), (dw, dictOf ew nw), (awc, listOf vs.toArray nwc)], fun _ _ _ => Iff.rfl⟩
  k_dflt (refine' enter_frame (K := hd.heap_1 w.params) [("self", .ref ap), ("data", .bytes b t2)] (Pq) B F X T N₁ N₂ apart rfl rfl hk ?k6 ?k7 ?k8 ?k9 ?kB ?h ?c2 ?c3 ?c4 ?c5 ?ret; (case k6 => k_is); (case k7 => k_is); (case k8 => ktr_room); (case k9 => exact BindsTo.of_eq rfl); (case c5 => decide); (case kB => exact locs rfl); (case c2 => exact rfl); (case c3 => exact rfl); (case c4 => exact rfl))
  case ret =>
    rintro L' v news' h' tk' - - hl2 hpq F' N' R'
    obtain ⟨rfl, rfl⟩ := (hPq _ _ _).mp hpq
    exact ret  h' tk' hl2 F' N' R'
  intro g L' h₁ F N B X T l1
  clear ret N₁ N₂ apart
  k_lt l1
  w_top off
  k_with_none
  (k_with "setAttr ref" => (k_here; k_dflt (refine' set_dict ?k1 ?k2 ?k3 ?k4 ?k5 ?k6 ?k7 ?k8 ?k9 ?k10 ?k11 ?k12 ?k13 ?_; (case k1 | k2 | k3 => k_asm); (case k4 => k_inst); (case k5 => exact rfl); (case k6 | k7 | k8 | k9 => k_is); (case k10 => exact getL_some _ _ (AbsD.plain (by ktr_rel))); (case k11 => exact put_abs (by ktr_rel)); (case k12 => k_upd); (case k13 => exact le_abs (by ktr_rel) (by omega)); k_whole; intro h'_w F'_w N'_w; (try k_sweep))))
  (k_with "compareOp In" => (k_here; (with_reducible show wpAny _ _ (compareOp CmpOp.In (Value.bytes _ _) (Value.ref _)) _ _ _); k_dflt (first
      | (refine' in_miss ?N ?m ?v ?b ?_; (case N => k_asm); (case m => k_mem); (case v => first | assumption | exact BAre.nil); (case b => first | assumption | exact List.not_mem_nil); k_whole)
      | (refine' in_hit ?N ?m ?v ?b ?_; (case N => k_asm); (case m => k_mem); (case v | b => assumption); k_whole))))
  (k_with "compareOp In str ref" => (k_here; (with_reducible show wpAny _ _ (compareOp CmpOp.In (Value.str _ _) (Value.ref _)) _ _ _); k_dflt (refine' in_K_strs ?F ?X ?l ?i ?b ?_; (case F | X => k_asm); (case l => k_is); (case i => kde_strs); (case b => exact rfl); k_whole)))
  (k_with "call ref" => (k_here; k_dflt (refine' CallsTo.use ?c ?B ?F ?X ?T ?kA ?kF ?k ?kh ?N ?s ?d ?u ?_; (case c => solve_by_elim only [hPr, hCh]); (case kA | kF => exact rfl); (case B | F | X | T => k_asm); (case k | kh => exact rfl); (case N => k_asm); (case s => k_subL); (case d => ktr_room); (case u => ktr_units); k_whole; intro t'_w h'_w tk'_w F'_w N'_w; (try k_sweep))))
  repeat' (first | (k_unfold; (try dsimp only)) | (k_end; wrow_close) | (walk1; (all_goals (try dsimp only))) | (dsimp only; walk1) | (leave1; walk_say "STEP leave1"; try dsimp only) | fail "no step")
  all_goals (exact End1.intro _ (by assumption) (by assumption) (by k_subL) ((hPq _ _ _).mpr ⟨rfl, rfl⟩))
set_option maxRecDepth 100000 in
set_option maxHeartbeats 1500000 in
theorem time_home {w : World} {p : Program} {loose : List Str} {mean : ExcName → Option Value} {mg mb : Str → Option Value} {dp un : Nat} {gd : Option (List Code)} {cn : Str} {cs : Scope} {a : Addr} {ccd : Value} {cl : List (Str × Addr)} {outer : List Env} {A₀ : Around} {base h₀ : Heap} {L : Addr} {m : Str → Option Value} {s : Shared} {Q E : Value → Shared → Prop} {rest : List (Addr × Obj)} {ap dP ak ah dh ahc aw dw awc : Addr} {eP eh ew : List DictEntry} {nP nk nh nhc nw nwc : Nat} {vs : List Value} {bs : List (Array UInt8)} {now d : Int} {tn td : Tok}{th tw ts : Tok} {wv dv fv sv lv : Value}
    (B : Below A₀ base outer h₀) (F : Fr h₀ L s.heap m) (X : (hd.heap_1 w.params).In h₀) (T : Top p loose mean mg mb h₀) (hk : cs.kind = .function)
    (N₁ : News h₀ L s.heap [(ap, instObj 282 dP), (dP, dictOf eP nP), (ak, listOf #[.ref ah, .ref aw] nk), (ah, instObj 167 dh), (dh, dictOf eh nh), (ahc, listOf #[] nhc), (aw, instObj 167 dw), (dw, dictOf ew nw), (awc, listOf vs.toArray nwc)]) (N₂ : News h₀ L s.heap rest) (apart : ∀ q ∈ rest, q.1 ∉ ([(ap, instObj 282 dP), (dP, dictOf eP nP), (ak, listOf #[.ref ah, .ref aw] nk), (ah, instObj 167 dh), (dh, dictOf eh nh), (ahc, listOf #[] nhc), (aw, instObj 167 dw), (dw, dictOf ew nw), (awc, listOf vs.toArray nwc)] : List (Addr × Obj)).map (·.1))
    (aP : AbsD eP 20) (aH : AbsD eh 20) (aW : AbsD ew 20) (hv : BAre vs bs) (gePknown : getL "known" eP = some (some (.ref ak))) (gehchallenges : getL "challenges" eh = some (some (.ref ahc))) (gewchallenges : getL "challenges" ew = some (some (.ref awc))) (gehdeadline : getL "deadline" eh = some (some (.none))) (gehstate : getL "state" eh = some (some (.str (Str.ofString "proven") ts))) (gewdeadline : getL "deadline" ew = some (some (.none))) (gePactive : getL "active" eP = some (some (.ref ah))) (hdp : dp + 10 < recursionLimit) (hun : un + 300 < cLine)
    (ret : ∀ (q7 : Tok) (h' : Heap) (tk' : Nat), (∀ x ∈ ([(ap, instObj 282 dP), (dP, dictOf eP nP), (ak, listOf #[.ref ah, .ref aw] nk), (ah, instObj 167 dh), (dh, dictOf eh nh), (ahc, listOf #[] nhc), (aw, instObj 167 dw), (dw, dictOf ew nw), (awc, listOf vs.toArray nwc)] : List (Addr × Obj)), ∀ q ∈ rest, x.1 ≠ q.1) → Fr h₀ L h' m → News h₀ L h' [(ap, instObj 282 dP), (dP, dictOf eP nP), (ak, listOf #[.ref ah, .ref aw] nk), (ah, instObj 167 dh), (dh, dictOf eh nh), (ahc, listOf #[] nhc), (aw, instObj 167 dw), (dw, dictOf ew nw), (awc, listOf vs.toArray nwc)] → News h₀ L h' rest → Q (.str (Str.ofString "same") q7) { s with heap := h', toks := tk' }) :
    wpAny (model PySem.Challenge.rw_pf0276_01.row.toRowW.prog w) (ktrTop dp un gd cn cs L a ccd cl outer) (call (.ref 279) [.ref ap, .int now tn]) Q E s := by
  revert X; k_fill; intro X
  obtain ⟨Pq, hPq⟩ : ∃ Pq : Addr → Value → List (Addr × Obj) → Prop, ∀ L' v news, Pq L' v news ↔ (∃ q7 : Tok, v = .str (Str.ofString "same") q7 ∧ news = [(ap, instObj 282 dP), (dP, dictOf eP nP), (ak, listOf #[.ref ah, .ref aw] nk), (ah, instObj 167 dh), (dh, dictOf eh nh), (ahc, listOf #[] nhc), (aw, instObj 167 dw), (dw, dictOf ew nw), (awc, listOf vs.toArray nwc)]) := ⟨fun L' v news => ∃ q7 : Tok, v = .str (Str.ofString "same") q7 ∧ news = [(ap, instObj 282 dP), (dP, dictOf eP nP), (ak, listOf #[.ref ah, .ref aw] nk), (ah, instObj 167 dh), (dh, dictOf eh nh), (ahc, listOf #[] nhc), (aw, instObj 167 dw), (dw, dictOf ew nw), (awc, listOf vs.toArray nwc)], fun _ _ _ => Iff.rfl⟩
  k_dflt (refine' enter_frame (K := hd.heap_1 w.params) [("self", .ref ap), ("now", .int now tn)] (Pq) B F X T N₁ N₂ apart rfl rfl hk ?k6 ?k7 ?k8 ?k9 ?kB ?h ?c2 ?c3 ?c4 ?c5 ?ret; (case k6 => k_is); (case k7 => k_is); (case k8 => ktr_room); (case k9 => exact BindsTo.of_eq rfl); (case c5 => decide); (case kB => exact locs rfl); (case c2 => exact rfl); (case c3 => exact rfl); (case c4 => exact rfl))
  case ret =>
    rintro L' v news' h' tk' - - hl2 hpq F' N' R'
    obtain ⟨q7, rfl, rfl⟩ := (hPq _ _ _).mp hpq
    exact ret q7 h' tk' hl2 F' N' R'
  intro g L' h₁ F N B X T l1
  clear ret N₁ N₂ apart
  k_lt l1
  w_top off
  k_with_none
  (k_with "setAttr ref" => (k_here; k_dflt (refine' set_dict ?k1 ?k2 ?k3 ?k4 ?k5 ?k6 ?k7 ?k8 ?k9 ?k10 ?k11 ?k12 ?k13 ?_; (case k1 | k2 | k3 => k_asm); (case k4 => k_inst); (case k5 => exact rfl); (case k6 | k7 | k8 | k9 => k_is); (case k10 => exact getL_some _ _ (AbsD.plain (by ktr_rel))); (case k11 => exact put_abs (by ktr_rel)); (case k12 => k_upd); (case k13 => exact le_abs (by ktr_rel) (by omega)); k_whole; intro h'_w F'_w N'_w; (try k_sweep))))
  (k_with "compareOp In" => (k_here; (with_reducible show wpAny _ _ (compareOp CmpOp.In (Value.bytes _ _) (Value.ref _)) _ _ _); k_dflt (first
      | (refine' in_miss ?N ?m ?v ?b ?_; (case N => k_asm); (case m => k_mem); (case v => first | assumption | exact BAre.nil); (case b => first | assumption | exact List.not_mem_nil); k_whole)
      | (refine' in_hit ?N ?m ?v ?b ?_; (case N => k_asm); (case m => k_mem); (case v | b => assumption); k_whole))))
  (k_with "compareOp In str ref" => (k_here; (with_reducible show wpAny _ _ (compareOp CmpOp.In (Value.str _ _) (Value.ref _)) _ _ _); k_dflt (refine' in_K_strs ?F ?X ?l ?i ?b ?_; (case F | X => k_asm); (case l => k_is); (case i => kde_strs); (case b => exact rfl); k_whole)))
  (k_with "call ref" => (k_here; k_dflt (refine' CallsTo.use ?c ?B ?F ?X ?T ?kA ?kF ?k ?kh ?N ?s ?d ?u ?_; (case c => solve_by_elim only [hPr, hCh]); (case kA | kF => exact rfl); (case B | F | X | T => k_asm); (case k | kh => exact rfl); (case N => k_asm); (case s => k_subL); (case d => ktr_room); (case u => ktr_units); k_whole; intro t'_w h'_w tk'_w F'_w N'_w; (try k_sweep))))
  repeat' (first | (k_unfold; (try dsimp only)) | (k_end; wrow_close) | (walk1; (all_goals (try dsimp only))) | (dsimp only; walk1) | (leave1; walk_say "STEP leave1"; try dsimp only) | fail "no step")
  all_goals (exact End1.intro _ (by assumption) (by assumption) (by k_subL) ((hPq _ _ _).mpr ⟨_, rfl, rfl⟩))
set_option maxRecDepth 100000 in
set_option maxHeartbeats 1500000 in
theorem time_over {w : World} {p : Program} {loose : List Str} {mean : ExcName → Option Value} {mg mb : Str → Option Value} {dp un : Nat} {gd : Option (List Code)} {cn : Str} {cs : Scope} {a : Addr} {ccd : Value} {cl : List (Str × Addr)} {outer : List Env} {A₀ : Around} {base h₀ : Heap} {L : Addr} {m : Str → Option Value} {s : Shared} {Q E : Value → Shared → Prop} {rest : List (Addr × Obj)} {zz : Addr} {oz : Obj} {ap dP ak ah dh ahc aw dw awc : Addr} {eP eh ew : List DictEntry} {nP nk nh nhc nw nwc : Nat} {vs : List Value} {bs : List (Array UInt8)} {now d : Int} {tn td : Tok}{th tw ts : Tok} {wv dv fv sv lv : Value}
    (B : Below A₀ base outer h₀) (F : Fr h₀ L s.heap m) (X : (hd.heap_1 w.params).In h₀) (T : Top p loose mean mg mb h₀) (hk : cs.kind = .function)
    (N₁ : News h₀ L s.heap [(ap, instObj 282 dP), (dP, dictOf eP nP), (ak, listOf #[.ref ah, .ref aw] nk), (ah, instObj 167 dh), (dh, dictOf eh nh), (ahc, listOf #[] nhc), (aw, instObj 167 dw), (dw, dictOf ew nw), (awc, listOf vs.toArray nwc), (zz, oz)]) (N₂ : News h₀ L s.heap rest) (apart : ∀ q ∈ rest, q.1 ∉ ([(ap, instObj 282 dP), (dP, dictOf eP nP), (ak, listOf #[.ref ah, .ref aw] nk), (ah, instObj 167 dh), (dh, dictOf eh nh), (ahc, listOf #[] nhc), (aw, instObj 167 dw), (dw, dictOf ew nw), (awc, listOf vs.toArray nwc), (zz, oz)] : List (Addr × Obj)).map (·.1))
    (aP : AbsD eP 20) (aH : AbsD eh 20) (aW : AbsD ew 20) (hv : BAre vs bs) (gePknown : getL "known" eP = some (some (.ref ak))) (gehchallenges : getL "challenges" eh = some (some (.ref ahc))) (gewchallenges : getL "challenges" ew = some (some (.ref awc))) (gehdeadline : getL "deadline" eh = some (some (.none))) (gehisfree : getL "is_free" eh = some (some (.bool true))) (gewstate : getL "state" ew = some (some (sv))) (gewisfree : getL "is_free" ew = some (some (fv))) (gewdeadline : getL "deadline" ew = some (some (.int d td))) (gewwantsmore : getL "wants_more" ew = some (some (wv))) (mewfail : getL "fail" ew = some none) (gePactive : getL "active" eP = some (some (.ref aw))) (gePlastproven : getL "last_proven" eP = some (some (.ref ah))) (hle : d ≤ now) (ho : @LT.lt Nat _ dP ap ∧ @LT.lt Nat _ ap dh ∧ @LT.lt Nat _ dh ah ∧ @LT.lt Nat _ ah ahc ∧ @LT.lt Nat _ ahc ak ∧ @LT.lt Nat _ ak dw ∧ @LT.lt Nat _ dw aw ∧ @LT.lt Nat _ aw awc) (hzz : @LT.lt Nat _ awc zz) (hdp : dp + 10 < recursionLimit) (hun : un + 300 < cLine)
    (ret : ∀ (q0 : Tok) (q1 : Tok) (q2 : Tok) (q3 : Tok) (q4 : Tok) (q5 : Tok) (q6 : Tok) (q7 : Tok) (an : Addr) (nP2 : Nat) (nw2 : Nat) (na : Nat) (h' : Heap) (tk' : Nat), (∀ x ∈ ([(ap, instObj 282 dP), (dP, dictOf (putL "active" (PyData.keyHash w.params "active") (.str "active" q6) (.ref ah) eP) nP2), (ak, listOf #[.ref ah, .ref aw] nk), (ah, instObj 167 dh), (dh, dictOf eh nh), (ahc, listOf #[] nhc), (aw, instObj 167 dw), (dw, dictOf (putL "wants_more" (PyData.keyHash w.params "wants_more") (.str "wants_more" q5) (.bool false) (putL "deadline" (PyData.keyHash w.params "deadline") (.str "deadline" q4) (.none) (putL "challenges" (PyData.keyHash w.params "challenges") (.str "challenges" q3) (.ref an) (putL "is_free" (PyData.keyHash w.params "is_free") (.str "is_free" q2) (.bool false) (putL "state" (PyData.keyHash w.params "state") (.str "state" q1) (.str (Str.ofString "failed") q0) ew))))) nw2), (an, listOf #[] na), (zz, oz)] : List (Addr × Obj)), ∀ q ∈ rest, x.1 ≠ q.1) → @LT.lt Nat _ aw an ∧ @LT.lt Nat _ zz an → Fr h₀ L h' m → News h₀ L h' [(ap, instObj 282 dP), (dP, dictOf (putL "active" (PyData.keyHash w.params "active") (.str "active" q6) (.ref ah) eP) nP2), (ak, listOf #[.ref ah, .ref aw] nk), (ah, instObj 167 dh), (dh, dictOf eh nh), (ahc, listOf #[] nhc), (aw, instObj 167 dw), (dw, dictOf (putL "wants_more" (PyData.keyHash w.params "wants_more") (.str "wants_more" q5) (.bool false) (putL "deadline" (PyData.keyHash w.params "deadline") (.str "deadline" q4) (.none) (putL "challenges" (PyData.keyHash w.params "challenges") (.str "challenges" q3) (.ref an) (putL "is_free" (PyData.keyHash w.params "is_free") (.str "is_free" q2) (.bool false) (putL "state" (PyData.keyHash w.params "state") (.str "state" q1) (.str (Str.ofString "failed") q0) ew))))) nw2), (an, listOf #[] na), (zz, oz)] → News h₀ L h' rest → Q (.str (Str.ofString "back") q7) { s with heap := h', toks := tk' }) :
    wpAny (model PySem.Challenge.rw_pf0276_01.row.toRowW.prog w) (ktrTop dp un gd cn cs L a ccd cl outer) (call (.ref 279) [.ref ap, .int now tn]) Q E s := by
  revert X; k_fill; intro X
  obtain ⟨Pq, hPq⟩ : ∃ Pq : Addr → Value → List (Addr × Obj) → Prop, ∀ L' v news, Pq L' v news ↔ (∃ q0 : Tok, ∃ q1 : Tok, ∃ q2 : Tok, ∃ q3 : Tok, ∃ q4 : Tok, ∃ q5 : Tok, ∃ q6 : Tok, ∃ q7 : Tok, ∃ an : Addr, ∃ nP2 : Nat, ∃ nw2 : Nat, ∃ na : Nat, v = .str (Str.ofString "back") q7 ∧ news = [(ap, instObj 282 dP), (dP, dictOf (putL "active" (PyData.keyHash w.params "active") (.str "active" q6) (.ref ah) eP) nP2), (ak, listOf #[.ref ah, .ref aw] nk), (ah, instObj 167 dh), (dh, dictOf eh nh), (ahc, listOf #[] nhc), (aw, instObj 167 dw), (dw, dictOf (putL "wants_more" (PyData.keyHash w.params "wants_more") (.str "wants_more" q5) (.bool false) (putL "deadline" (PyData.keyHash w.params "deadline") (.str "deadline" q4) (.none) (putL "challenges" (PyData.keyHash w.params "challenges") (.str "challenges" q3) (.ref an) (putL "is_free" (PyData.keyHash w.params "is_free") (.str "is_free" q2) (.bool false) (putL "state" (PyData.keyHash w.params "state") (.str "state" q1) (.str (Str.ofString "failed") q0) ew))))) nw2), (an, listOf #[] na), (zz, oz)] ∧ @LT.lt Nat _ aw an ∧ @LT.lt Nat _ zz an) := ⟨fun L' v news => ∃ q0 : Tok, ∃ q1 : Tok, ∃ q2 : Tok, ∃ q3 : Tok, ∃ q4 : Tok, ∃ q5 : Tok, ∃ q6 : Tok, ∃ q7 : Tok, ∃ an : Addr, ∃ nP2 : Nat, ∃ nw2 : Nat, ∃ na : Nat, v = .str (Str.ofString "back") q7 ∧ news = [(ap, instObj 282 dP), (dP, dictOf (putL "active" (PyData.keyHash w.params "active") (.str "active" q6) (.ref ah) eP) nP2), (ak, listOf #[.ref ah, .ref aw] nk), (ah, instObj 167 dh), (dh, dictOf eh nh), (ahc, listOf #[] nhc), (aw, instObj 167 dw), (dw, dictOf (putL "wants_more" (PyData.keyHash w.params "wants_more") (.str "wants_more" q5) (.bool false) (putL "deadline" (PyData.keyHash w.params "deadline") (.str "deadline" q4) (.none) (putL "challenges" (PyData.keyHash w.params "challenges") (.str "challenges" q3) (.ref an) (putL "is_free" (PyData.keyHash w.params "is_free") (.str "is_free" q2) (.bool false) (putL "state" (PyData.keyHash w.params "state") (.str "state" q1) (.str (Str.ofString "failed") q0) ew))))) nw2), (an, listOf #[] na), (zz, oz)] ∧ @LT.lt Nat _ aw an ∧ @LT.lt Nat _ zz an, fun _ _ _ => Iff.rfl⟩
  k_dflt (refine' enter_frame (K := hd.heap_1 w.params) [("self", .ref ap), ("now", .int now tn)] (Pq) B F X T N₁ N₂ apart rfl rfl hk ?k6 ?k7 ?k8 ?k9 ?kB ?h ?c2 ?c3 ?c4 ?c5 ?ret; (case k6 => k_is); (case k7 => k_is); (case k8 => ktr_room); (case k9 => exact BindsTo.of_eq rfl); (case c5 => decide); (case kB => exact locs rfl); (case c2 => exact rfl); (case c3 => exact rfl); (case c4 => exact rfl))
  case ret =>
    rintro L' v news' h' tk' - - hl2 hpq F' N' R'
    obtain ⟨q0, q1, q2, q3, q4, q5, q6, q7, an, nP2, nw2, na, rfl, rfl, hfacts⟩ := (hPq _ _ _).mp hpq
    exact ret q0 q1 q2 q3 q4 q5 q6 q7 an nP2 nw2 na h' tk' hl2 hfacts F' N' R'
  intro g L' h₁ F N B X T l1
  clear ret N₁ N₂ apart
  k_lt l1
  w_top off
  k_with_none
  (k_with "setAttr ref" => (k_here; k_dflt (refine' set_dict ?k1 ?k2 ?k3 ?k4 ?k5 ?k6 ?k7 ?k8 ?k9 ?k10 ?k11 ?k12 ?k13 ?_; (case k1 | k2 | k3 => k_asm); (case k4 => k_inst); (case k5 => exact rfl); (case k6 | k7 | k8 | k9 => k_is); (case k10 => exact getL_some _ _ (AbsD.plain (by ktr_rel))); (case k11 => exact put_abs (by ktr_rel)); (case k12 => k_upd); (case k13 => exact le_abs (by ktr_rel) (by omega)); k_whole; intro h'_w F'_w N'_w; (try k_sweep))))
  (k_with "compareOp In" => (k_here; (with_reducible show wpAny _ _ (compareOp CmpOp.In (Value.bytes _ _) (Value.ref _)) _ _ _); k_dflt (first
      | (refine' in_miss ?N ?m ?v ?b ?_; (case N => k_asm); (case m => k_mem); (case v => first | assumption | exact BAre.nil); (case b => first | assumption | exact List.not_mem_nil); k_whole)
      | (refine' in_hit ?N ?m ?v ?b ?_; (case N => k_asm); (case m => k_mem); (case v | b => assumption); k_whole))))
  (k_with "compareOp In str ref" => (k_here; (with_reducible show wpAny _ _ (compareOp CmpOp.In (Value.str _ _) (Value.ref _)) _ _ _); k_dflt (refine' in_K_strs ?F ?X ?l ?i ?b ?_; (case F | X => k_asm); (case l => k_is); (case i => kde_strs); (case b => exact rfl); k_whole)))
  (k_with "call ref" => (k_here; k_dflt (refine' CallsTo.use ?c ?B ?F ?X ?T ?kA ?kF ?k ?kh ?N ?s ?d ?u ?_; (case c => solve_by_elim only [hPr, hCh]); (case kA | kF => exact rfl); (case B | F | X | T => k_asm); (case k | kh => exact rfl); (case N => k_asm); (case s => k_subL); (case d => ktr_room); (case u => ktr_units); k_whole; intro t'_w h'_w tk'_w F'_w N'_w; (try k_sweep))))
  repeat' (first | (k_unfold; (try dsimp only)) | (k_end; wrow_close) | (walk1; (all_goals (try dsimp only))) | (dsimp only; walk1) | (leave1; walk_say "STEP leave1"; try dsimp only) | fail "no step")
  all_goals (exact End1.intro _ (by assumption) (by assumption) (by k_subL) ((hPq _ _ _).mpr ⟨_, _, _, _, _, _, _, _, _, _, _, _, rfl, rfl, by omega⟩))
set_option maxRecDepth 100000 in
set_option maxHeartbeats 1500000 in
theorem time_proven {w : World} {p : Program} {loose : List Str} {mean : ExcName → Option Value} {mg mb : Str → Option Value} {dp un : Nat} {gd : Option (List Code)} {cn : Str} {cs : Scope} {a : Addr} {ccd : Value} {cl : List (Str × Addr)} {outer : List Env} {A₀ : Around} {base h₀ : Heap} {L : Addr} {m : Str → Option Value} {s : Shared} {Q E : Value → Shared → Prop} {rest : List (Addr × Obj)} {ap dP ak ah dh ahc aw dw awc : Addr} {eP eh ew : List DictEntry} {nP nk nh nhc nw nwc : Nat} {vs : List Value} {bs : List (Array UInt8)} {now d : Int} {tn td : Tok}{th tw ts : Tok} {wv dv fv sv lv : Value}
    (B : Below A₀ base outer h₀) (F : Fr h₀ L s.heap m) (X : (hd.heap_1 w.params).In h₀) (T : Top p loose mean mg mb h₀) (hk : cs.kind = .function)
    (N₁ : News h₀ L s.heap [(ap, instObj 282 dP), (dP, dictOf eP nP), (ak, listOf #[.ref ah, .ref aw] nk), (ah, instObj 167 dh), (dh, dictOf eh nh), (ahc, listOf #[] nhc), (aw, instObj 167 dw), (dw, dictOf ew nw), (awc, listOf vs.toArray nwc)]) (N₂ : News h₀ L s.heap rest) (apart : ∀ q ∈ rest, q.1 ∉ ([(ap, instObj 282 dP), (dP, dictOf eP nP), (ak, listOf #[.ref ah, .ref aw] nk), (ah, instObj 167 dh), (dh, dictOf eh nh), (ahc, listOf #[] nhc), (aw, instObj 167 dw), (dw, dictOf ew nw), (awc, listOf vs.toArray nwc)] : List (Addr × Obj)).map (·.1))
    (aP : AbsD eP 20) (aH : AbsD eh 20) (aW : AbsD ew 20) (hv : BAre vs bs) (gePknown : getL "known" eP = some (some (.ref ak))) (gehchallenges : getL "challenges" eh = some (some (.ref ahc))) (gewchallenges : getL "challenges" ew = some (some (.ref awc))) (gehdeadline : getL "deadline" eh = some (some (.none))) (gewstate : getL "state" ew = some (some (.str (Str.ofString "proven") ts))) (gewdeadline : getL "deadline" ew = some (some (.none))) (gePactive : getL "active" eP = some (some (.ref aw))) (hdp : dp + 10 < recursionLimit) (hun : un + 300 < cLine)
    (ret : ∀ (q7 : Tok) (h' : Heap) (tk' : Nat), (∀ x ∈ ([(ap, instObj 282 dP), (dP, dictOf eP nP), (ak, listOf #[.ref ah, .ref aw] nk), (ah, instObj 167 dh), (dh, dictOf eh nh), (ahc, listOf #[] nhc), (aw, instObj 167 dw), (dw, dictOf ew nw), (awc, listOf vs.toArray nwc)] : List (Addr × Obj)), ∀ q ∈ rest, x.1 ≠ q.1) → Fr h₀ L h' m → News h₀ L h' [(ap, instObj 282 dP), (dP, dictOf eP nP), (ak, listOf #[.ref ah, .ref aw] nk), (ah, instObj 167 dh), (dh, dictOf eh nh), (ahc, listOf #[] nhc), (aw, instObj 167 dw), (dw, dictOf ew nw), (awc, listOf vs.toArray nwc)] → News h₀ L h' rest → Q (.str (Str.ofString "same") q7) { s with heap := h', toks := tk' }) :
    wpAny (model PySem.Challenge.rw_pf0276_01.row.toRowW.prog w) (ktrTop dp un gd cn cs L a ccd cl outer) (call (.ref 279) [.ref ap, .int now tn]) Q E s := by
  revert X; k_fill; intro X
  obtain ⟨Pq, hPq⟩ : ∃ Pq : Addr → Value → List (Addr × Obj) → Prop, ∀ L' v news, Pq L' v news ↔ (∃ q7 : Tok, v = .str (Str.ofString "same") q7 ∧ news = [(ap, instObj 282 dP), (dP, dictOf eP nP), (ak, listOf #[.ref ah, .ref aw] nk), (ah, instObj 167 dh), (dh, dictOf eh nh), (ahc, listOf #[] nhc), (aw, instObj 167 dw), (dw, dictOf ew nw), (awc, listOf vs.toArray nwc)]) := ⟨fun L' v news => ∃ q7 : Tok, v = .str (Str.ofString "same") q7 ∧ news = [(ap, instObj 282 dP), (dP, dictOf eP nP), (ak, listOf #[.ref ah, .ref aw] nk), (ah, instObj 167 dh), (dh, dictOf eh nh), (ahc, listOf #[] nhc), (aw, instObj 167 dw), (dw, dictOf ew nw), (awc, listOf vs.toArray nwc)], fun _ _ _ => Iff.rfl⟩
  k_dflt (refine' enter_frame (K := hd.heap_1 w.params) [("self", .ref ap), ("now", .int now tn)] (Pq) B F X T N₁ N₂ apart rfl rfl hk ?k6 ?k7 ?k8 ?k9 ?kB ?h ?c2 ?c3 ?c4 ?c5 ?ret; (case k6 => k_is); (case k7 => k_is); (case k8 => ktr_room); (case k9 => exact BindsTo.of_eq rfl); (case c5 => decide); (case kB => exact locs rfl); (case c2 => exact rfl); (case c3 => exact rfl); (case c4 => exact rfl))
  case ret =>
    rintro L' v news' h' tk' - - hl2 hpq F' N' R'
    obtain ⟨q7, rfl, rfl⟩ := (hPq _ _ _).mp hpq
    exact ret q7 h' tk' hl2 F' N' R'
  intro g L' h₁ F N B X T l1
  clear ret N₁ N₂ apart
  k_lt l1
  w_top off
  k_with_none
  (k_with "setAttr ref" => (k_here; k_dflt (refine' set_dict ?k1 ?k2 ?k3 ?k4 ?k5 ?k6 ?k7 ?k8 ?k9 ?k10 ?k11 ?k12 ?k13 ?_; (case k1 | k2 | k3 => k_asm); (case k4 => k_inst); (case k5 => exact rfl); (case k6 | k7 | k8 | k9 => k_is); (case k10 => exact getL_some _ _ (AbsD.plain (by ktr_rel))); (case k11 => exact put_abs (by ktr_rel)); (case k12 => k_upd); (case k13 => exact le_abs (by ktr_rel) (by omega)); k_whole; intro h'_w F'_w N'_w; (try k_sweep))))
  (k_with "compareOp In" => (k_here; (with_reducible show wpAny _ _ (compareOp CmpOp.In (Value.bytes _ _) (Value.ref _)) _ _ _); k_dflt (first
      | (refine' in_miss ?N ?m ?v ?b ?_; (case N => k_asm); (case m => k_mem); (case v => first | assumption | exact BAre.nil); (case b => first | assumption | exact List.not_mem_nil); k_whole)
      | (refine' in_hit ?N ?m ?v ?b ?_; (case N => k_asm); (case m => k_mem); (case v | b => assumption); k_whole))))
  (k_with "compareOp In str ref" => (k_here; (with_reducible show wpAny _ _ (compareOp CmpOp.In (Value.str _ _) (Value.ref _)) _ _ _); k_dflt (refine' in_K_strs ?F ?X ?l ?i ?b ?_; (case F | X => k_asm); (case l => k_is); (case i => kde_strs); (case b => exact rfl); k_whole)))
  (k_with "call ref" => (k_here; k_dflt (refine' CallsTo.use ?c ?B ?F ?X ?T ?kA ?kF ?k ?kh ?N ?s ?d ?u ?_; (case c => solve_by_elim only [hPr, hCh]); (case kA | kF => exact rfl); (case B | F | X | T => k_asm); (case k | kh => exact rfl); (case N => k_asm); (case s => k_subL); (case d => ktr_room); (case u => ktr_units); k_whole; intro t'_w h'_w tk'_w F'_w N'_w; (try k_sweep))))
  repeat' (first | (k_unfold; (try dsimp only)) | (k_end; wrow_close) | (walk1; (all_goals (try dsimp only))) | (dsimp only; walk1) | (leave1; walk_say "STEP leave1"; try dsimp only) | fail "no step")
  all_goals (exact End1.intro _ (by assumption) (by assumption) (by k_subL) ((hPq _ _ _).mpr ⟨_, rfl, rfl⟩))
set_option maxRecDepth 100000 in
set_option maxHeartbeats 1500000 in
theorem time_tried {w : World} {p : Program} {loose : List Str} {mean : ExcName → Option Value} {mg mb : Str → Option Value} {dp un : Nat} {gd : Option (List Code)} {cn : Str} {cs : Scope} {a : Addr} {ccd : Value} {cl : List (Str × Addr)} {outer : List Env} {A₀ : Around} {base h₀ : Heap} {L : Addr} {m : Str → Option Value} {s : Shared} {Q E : Value → Shared → Prop} {rest : List (Addr × Obj)} {ap dP ak ah dh ahc aw dw awc : Addr} {eP eh ew : List DictEntry} {nP nk nh nhc nw nwc : Nat} {vs : List Value} {bs : List (Array UInt8)} {now d : Int} {tn td : Tok}{th tw ts : Tok} {wv dv fv sv lv : Value}
    (B : Below A₀ base outer h₀) (F : Fr h₀ L s.heap m) (X : (hd.heap_1 w.params).In h₀) (T : Top p loose mean mg mb h₀) (hk : cs.kind = .function)
    (N₁ : News h₀ L s.heap [(ap, instObj 282 dP), (dP, dictOf eP nP), (ak, listOf #[.ref ah, .ref aw] nk), (ah, instObj 167 dh), (dh, dictOf eh nh), (ahc, listOf #[] nhc), (aw, instObj 167 dw), (dw, dictOf ew nw), (awc, listOf vs.toArray nwc)]) (N₂ : News h₀ L s.heap rest) (apart : ∀ q ∈ rest, q.1 ∉ ([(ap, instObj 282 dP), (dP, dictOf eP nP), (ak, listOf #[.ref ah, .ref aw] nk), (ah, instObj 167 dh), (dh, dictOf eh nh), (ahc, listOf #[] nhc), (aw, instObj 167 dw), (dw, dictOf ew nw), (awc, listOf vs.toArray nwc)] : List (Addr × Obj)).map (·.1))
    (aP : AbsD eP 20) (aH : AbsD eh 20) (aW : AbsD ew 20) (hv : BAre vs bs) (gePknown : getL "known" eP = some (some (.ref ak))) (gehchallenges : getL "challenges" eh = some (some (.ref ahc))) (gewchallenges : getL "challenges" ew = some (some (.ref awc))) (gehdeadline : getL "deadline" eh = some (some (.none))) (gewstate : getL "state" ew = some (some (.str (Str.ofString "trying") ts))) (gewdeadline : getL "deadline" ew = some (some (.int d td))) (gePactive : getL "active" eP = some (some (.ref aw))) (hle : now < d) (hdp : dp + 10 < recursionLimit) (hun : un + 300 < cLine)
    (ret : ∀ (q7 : Tok) (h' : Heap) (tk' : Nat), (∀ x ∈ ([(ap, instObj 282 dP), (dP, dictOf eP nP), (ak, listOf #[.ref ah, .ref aw] nk), (ah, instObj 167 dh), (dh, dictOf eh nh), (ahc, listOf #[] nhc), (aw, instObj 167 dw), (dw, dictOf ew nw), (awc, listOf vs.toArray nwc)] : List (Addr × Obj)), ∀ q ∈ rest, x.1 ≠ q.1) → Fr h₀ L h' m → News h₀ L h' [(ap, instObj 282 dP), (dP, dictOf eP nP), (ak, listOf #[.ref ah, .ref aw] nk), (ah, instObj 167 dh), (dh, dictOf eh nh), (ahc, listOf #[] nhc), (aw, instObj 167 dw), (dw, dictOf ew nw), (awc, listOf vs.toArray nwc)] → News h₀ L h' rest → Q (.str (Str.ofString "same") q7) { s with heap := h', toks := tk' }) :
    wpAny (model PySem.Challenge.rw_pf0276_01.row.toRowW.prog w) (ktrTop dp un gd cn cs L a ccd cl outer) (call (.ref 279) [.ref ap, .int now tn]) Q E s := by
  revert X; k_fill; intro X
  obtain ⟨Pq, hPq⟩ : ∃ Pq : Addr → Value → List (Addr × Obj) → Prop, ∀ L' v news, Pq L' v news ↔ (∃ q7 : Tok, v = .str (Str.ofString "same") q7 ∧ news = [(ap, instObj 282 dP), (dP, dictOf eP nP), (ak, listOf #[.ref ah, .ref aw] nk), (ah, instObj 167 dh), (dh, dictOf eh nh), (ahc, listOf #[] nhc), (aw, instObj 167 dw), (dw, dictOf ew nw), (awc, listOf vs.toArray nwc)]) := ⟨fun L' v news => ∃ q7 : Tok, v = .str (Str.ofString "same") q7 ∧ news = [(ap, instObj 282 dP), (dP, dictOf eP nP), (ak, listOf #[.ref ah, .ref aw] nk), (ah, instObj 167 dh), (dh, dictOf eh nh), (ahc, listOf #[] nhc), (aw, instObj 167 dw), (dw, dictOf ew nw), (awc, listOf vs.toArray nwc)], fun _ _ _ => Iff.rfl⟩
  k_dflt (refine' enter_frame (K := hd.heap_1 w.params) [("self", .ref ap), ("now", .int now tn)] (Pq) B F X T N₁ N₂ apart rfl rfl hk ?k6 ?k7 ?k8 ?k9 ?kB ?h ?c2 ?c3 ?c4 ?c5 ?ret; (case k6 => k_is); (case k7 => k_is); (case k8 => ktr_room); (case k9 => exact BindsTo.of_eq rfl); (case c5 => decide); (case kB => exact locs rfl); (case c2 => exact rfl); (case c3 => exact rfl); (case c4 => exact rfl))
  case ret =>
    rintro L' v news' h' tk' - - hl2 hpq F' N' R'
    obtain ⟨q7, rfl, rfl⟩ := (hPq _ _ _).mp hpq
    exact ret q7 h' tk' hl2 F' N' R'
  intro g L' h₁ F N B X T l1
  clear ret N₁ N₂ apart
  k_lt l1
  w_top off
  k_with_none
  (k_with "setAttr ref" => (k_here; k_dflt (refine' set_dict ?k1 ?k2 ?k3 ?k4 ?k5 ?k6 ?k7 ?k8 ?k9 ?k10 ?k11 ?k12 ?k13 ?_; (case k1 | k2 | k3 => k_asm); (case k4 => k_inst); (case k5 => exact rfl); (case k6 | k7 | k8 | k9 => k_is); (case k10 => exact getL_some _ _ (AbsD.plain (by ktr_rel))); (case k11 => exact put_abs (by ktr_rel)); (case k12 => k_upd); (case k13 => exact le_abs (by ktr_rel) (by omega)); k_whole; intro h'_w F'_w N'_w; (try k_sweep))))
  (k_with "compareOp In" => (k_here; (with_reducible show wpAny _ _ (compareOp CmpOp.In (Value.bytes _ _) (Value.ref _)) _ _ _); k_dflt (first
      | (refine' in_miss ?N ?m ?v ?b ?_; (case N => k_asm); (case m => k_mem); (case v => first | assumption | exact BAre.nil); (case b => first | assumption | exact List.not_mem_nil); k_whole)
      | (refine' in_hit ?N ?m ?v ?b ?_; (case N => k_asm); (case m => k_mem); (case v | b => assumption); k_whole))))
  (k_with "compareOp In str ref" => (k_here; (with_reducible show wpAny _ _ (compareOp CmpOp.In (Value.str _ _) (Value.ref _)) _ _ _); k_dflt (refine' in_K_strs ?F ?X ?l ?i ?b ?_; (case F | X => k_asm); (case l => k_is); (case i => kde_strs); (case b => exact rfl); k_whole)))
  (k_with "call ref" => (k_here; k_dflt (refine' CallsTo.use ?c ?B ?F ?X ?T ?kA ?kF ?k ?kh ?N ?s ?d ?u ?_; (case c => solve_by_elim only [hPr, hCh]); (case kA | kF => exact rfl); (case B | F | X | T => k_asm); (case k | kh => exact rfl); (case N => k_asm); (case s => k_subL); (case d => ktr_room); (case u => ktr_units); k_whole; intro t'_w h'_w tk'_w F'_w N'_w; (try k_sweep))))
  repeat' (first | (k_unfold; (try dsimp only)) | (k_end; wrow_close) | (walk1; (all_goals (try dsimp only))) | (dsimp only; walk1) | (leave1; walk_say "STEP leave1"; try dsimp only) | fail "no step")
  all_goals (exact End1.intro _ (by assumption) (by assumption) (by k_subL) ((hPq _ _ _).mpr ⟨_, rfl, rfl⟩))
set_option maxRecDepth 100000 in
set_option maxHeartbeats 1500000 in
theorem datagram {w : World} {p : Program} {loose : List Str} {mean : ExcName → Option Value} {mg mb : Str → Option Value} {dp un : Nat} {gd : Option (List Code)} {cn : Str} {cs : Scope} {a : Addr} {ccd : Value} {cl : List (Str × Addr)} {outer : List Env} {A₀ : Around} {base h₀ : Heap} {L : Addr} {m : Str → Option Value} {s : Shared} {Q E : Value → Shared → Prop} {rest : List (Addr × Obj)} {zz : Addr} {oz : Obj} {ap dP ak ah dh ahc aa : Addr} {eP eh : List DictEntry} {nP nk nh nhc : Nat} {t1 t2 ta ti : Tok}
    (B : Below A₀ base outer h₀) (F : Fr h₀ L s.heap m) (X : (hd.heap_1 w.params).In h₀) (T : Top p loose mean mg mb h₀) (hk : cs.kind = .function)
    (N₁ : News h₀ L s.heap [(ap, instObj 282 dP), (dP, dictOf eP nP), (ak, listOf #[.ref ah] nk), (ah, instObj 167 dh), (dh, dictOf eh nh), (zz, oz)]) (N₂ : News h₀ L s.heap rest) (apart : ∀ q ∈ rest, q.1 ∉ ([(ap, instObj 282 dP), (dP, dictOf eP nP), (ak, listOf #[.ref ah] nk), (ah, instObj 167 dh), (dh, dictOf eh nh), (zz, oz)] : List (Addr × Obj)).map (·.1))
    (aP : AbsD eP 20) (aH : AbsD eh 20) (geProle : getL "role" eP = some (some (.str (Str.ofString "server") t1))) (gePmaymove : getL "may_move" eP = some (some (.bool true))) (gePknown : getL "known" eP = some (some (.ref ak))) (mePpathof : getL "path_of" eP = some none) (mePopened : getL "opened" eP = some none) (gehaddress : getL "address" eh = some (some (.str (Str.ofString "home") t2))) (ho : @LT.lt Nat _ dP ap ∧ @LT.lt Nat _ ap dh ∧ @LT.lt Nat _ dh ah ∧ @LT.lt Nat _ ah ahc ∧ @LT.lt Nat _ ahc ak) (hzz : @LT.lt Nat _ ak zz) (hdp : dp + 10 < recursionLimit) (hun : un + 300 < cLine)
    (ret : ∀ (ew : List DictEntry) (aw : Addr) (dw : Addr) (awc : Addr) (nk2 : Nat) (nw : Nat) (nwc : Nat) (qs : Tok) (h' : Heap) (tk' : Nat), (∀ x ∈ ([(ap, instObj 282 dP), (dP, dictOf eP nP), (ak, listOf #[.ref ah, .ref aw] nk2), (ah, instObj 167 dh), (dh, dictOf eh nh), (aw, instObj 167 dw), (dw, dictOf ew nw), (awc, listOf #[] nwc), (zz, oz)] : List (Addr × Obj)), ∀ q ∈ rest, x.1 ≠ q.1) → AbsD ew 20 ∧ getL "address" ew = some (some (.str (Str.ofString "away") ta)) ∧ getL "state" ew = some (some (.str (Str.ofString "unproven") qs)) ∧ getL "is_free" ew = some (some (.bool false)) ∧ getL "challenges" ew = some (some (.ref awc)) ∧ getL "deadline" ew = some (some (.none)) ∧ getL "wants_more" ew = some (some (.bool false)) ∧ getL "prove" ew = some none ∧ getL "fail" ew = some none ∧ getL "challenge" ew = some none ∧ getL "renew" ew = some none ∧ getL "is_proven" ew = some none ∧ @LT.lt Nat _ ak dw ∧ @LT.lt Nat _ dw aw ∧ @LT.lt Nat _ aw awc ∧ @LT.lt Nat _ zz dw → Fr h₀ L h' m → News h₀ L h' [(ap, instObj 282 dP), (dP, dictOf eP nP), (ak, listOf #[.ref ah, .ref aw] nk2), (ah, instObj 167 dh), (dh, dictOf eh nh), (aw, instObj 167 dw), (dw, dictOf ew nw), (awc, listOf #[] nwc), (zz, oz)] → News h₀ L h' rest → Q (.ref aw) { s with heap := h', toks := tk' }) :
    wpAny (model PySem.Challenge.rw_pf0276_01.row.toRowW.prog w) (ktrTop dp un gd cn cs L a ccd cl outer) (call (.ref 206) [.ref ap, .str (Str.ofString "away") ta, .int 100 ti]) Q E s := by
  revert X; k_fill; intro X
  obtain ⟨Pq, hPq⟩ : ∃ Pq : Addr → Value → List (Addr × Obj) → Prop, ∀ L' v news, Pq L' v news ↔ (∃ ew : List DictEntry, ∃ aw : Addr, ∃ dw : Addr, ∃ awc : Addr, ∃ nk2 : Nat, ∃ nw : Nat, ∃ nwc : Nat, ∃ qs : Tok, v = .ref aw ∧ news = [(ap, instObj 282 dP), (dP, dictOf eP nP), (ak, listOf #[.ref ah, .ref aw] nk2), (ah, instObj 167 dh), (dh, dictOf eh nh), (aw, instObj 167 dw), (dw, dictOf ew nw), (awc, listOf #[] nwc), (zz, oz)] ∧ AbsD ew 20 ∧ getL "address" ew = some (some (.str (Str.ofString "away") ta)) ∧ getL "state" ew = some (some (.str (Str.ofString "unproven") qs)) ∧ getL "is_free" ew = some (some (.bool false)) ∧ getL "challenges" ew = some (some (.ref awc)) ∧ getL "deadline" ew = some (some (.none)) ∧ getL "wants_more" ew = some (some (.bool false)) ∧ getL "prove" ew = some none ∧ getL "fail" ew = some none ∧ getL "challenge" ew = some none ∧ getL "renew" ew = some none ∧ getL "is_proven" ew = some none ∧ @LT.lt Nat _ ak dw ∧ @LT.lt Nat _ dw aw ∧ @LT.lt Nat _ aw awc ∧ @LT.lt Nat _ zz dw) := ⟨fun L' v news => ∃ ew : List DictEntry, ∃ aw : Addr, ∃ dw : Addr, ∃ awc : Addr, ∃ nk2 : Nat, ∃ nw : Nat, ∃ nwc : Nat, ∃ qs : Tok, v = .ref aw ∧ news = [(ap, instObj 282 dP), (dP, dictOf eP nP), (ak, listOf #[.ref ah, .ref aw] nk2), (ah, instObj 167 dh), (dh, dictOf eh nh), (aw, instObj 167 dw), (dw, dictOf ew nw), (awc, listOf #[] nwc), (zz, oz)] ∧ AbsD ew 20 ∧ getL "address" ew = some (some (.str (Str.ofString "away") ta)) ∧ getL "state" ew = some (some (.str (Str.ofString "unproven") qs)) ∧ getL "is_free" ew = some (some (.bool false)) ∧ getL "challenges" ew = some (some (.ref awc)) ∧ getL "deadline" ew = some (some (.none)) ∧ getL "wants_more" ew = some (some (.bool false)) ∧ getL "prove" ew = some none ∧ getL "fail" ew = some none ∧ getL "challenge" ew = some none ∧ getL "renew" ew = some none ∧ getL "is_proven" ew = some none ∧ @LT.lt Nat _ ak dw ∧ @LT.lt Nat _ dw aw ∧ @LT.lt Nat _ aw awc ∧ @LT.lt Nat _ zz dw, fun _ _ _ => Iff.rfl⟩
  k_dflt (refine' enter_frame (K := hd.heap_1 w.params) [("self", .ref ap), ("address", .str (Str.ofString "away") ta), ("size", .int 100 ti)] (Pq) B F X T N₁ N₂ apart rfl rfl hk ?k6 ?k7 ?k8 ?k9 ?kB ?h ?c2 ?c3 ?c4 ?c5 ?ret; (case k6 => k_is); (case k7 => k_is); (case k8 => ktr_room); (case k9 => exact BindsTo.of_eq rfl); (case c5 => decide); (case kB => exact locs rfl); (case c2 => exact rfl); (case c3 => exact rfl); (case c4 => exact rfl))
  case ret =>
    rintro L' v news' h' tk' - - hl2 hpq F' N' R'
    obtain ⟨ew, aw, dw, awc, nk2, nw, nwc, qs, rfl, rfl, hfacts⟩ := (hPq _ _ _).mp hpq
    exact ret ew aw dw awc nk2 nw nwc qs h' tk' hl2 hfacts F' N' R'
  intro g L' h₁ F N B X T l1
  clear ret N₁ N₂ apart
  k_lt l1
  w_top off
  k_with_none
  (k_with "setAttr ref" => (k_here; k_dflt (refine' set_dict ?k1 ?k2 ?k3 ?k4 ?k5 ?k6 ?k7 ?k8 ?k9 ?k10 ?k11 ?k12 ?k13 ?_; (case k1 | k2 | k3 => k_asm); (case k4 => k_inst); (case k5 => exact rfl); (case k6 | k7 | k8 | k9 => k_is); (case k10 => exact getL_some _ _ (AbsD.plain (by ktr_rel))); (case k11 => exact put_abs (by ktr_rel)); (case k12 => k_upd); (case k13 => exact le_abs (by ktr_rel) (by omega)); k_whole; intro h'_w F'_w N'_w; (try k_sweep))))
  (k_with "compareOp In" => (k_here; (with_reducible show wpAny _ _ (compareOp CmpOp.In (Value.bytes _ _) (Value.ref _)) _ _ _); k_dflt (first
      | (refine' in_miss ?N ?m ?v ?b ?_; (case N => k_asm); (case m => k_mem); (case v => first | assumption | exact BAre.nil); (case b => first | assumption | exact List.not_mem_nil); k_whole)
      | (refine' in_hit ?N ?m ?v ?b ?_; (case N => k_asm); (case m => k_mem); (case v | b => assumption); k_whole))))
  (k_with "compareOp In str ref" => (k_here; (with_reducible show wpAny _ _ (compareOp CmpOp.In (Value.str _ _) (Value.ref _)) _ _ _); k_dflt (refine' in_K_strs ?F ?X ?l ?i ?b ?_; (case F | X => k_asm); (case l => k_is); (case i => kde_strs); (case b => exact rfl); k_whole)))
  (k_with "call ref" => (k_here; k_dflt (refine' CallsTo.use ?c ?B ?F ?X ?T ?kA ?kF ?k ?kh ?N ?s ?d ?u ?_; (case c => solve_by_elim only [hPr, hCh]); (case kA | kF => exact rfl); (case B | F | X | T => k_asm); (case k | kh => exact rfl); (case N => k_asm); (case s => k_subL); (case d => ktr_room); (case u => ktr_units); k_whole; intro t'_w h'_w tk'_w F'_w N'_w; (try k_sweep))))
  repeat' (first | (k_unfold; (try dsimp only)) | (k_end; wrow_close) | (walk1; (all_goals (try dsimp only))) | (dsimp only; walk1) | (leave1; walk_say "STEP leave1"; try dsimp only) | fail "no step")
  all_goals (refine' End1.intro _ (by assumption) (by assumption) ?sub ((hPq _ _ _).mpr ⟨_, _, _, _, _, _, _, _, rfl, rfl, ?f⟩); (case' sub => refine' ⟨?s0, ?s1, ?s2, ?s3, ?s4, ?s5, ?s6, ?s7, ?s8, trivial⟩); (case s0 => k_mem); (case s1 => k_mem); (case s2 => k_mem); (case s3 => k_mem); (case s4 => k_mem); (case s5 => k_mem); (case s6 => k_mem); (case s7 => k_mem); (case s8 => k_mem); (case f => (repeat' (first | exact AbsD.mk (Nat.le_of_ble_eq_true rfl) rfl | refine And.intro ?_ ?_ | exact rfl | k_get | omega))))
set_option maxRecDepth 100000 in
set_option maxHeartbeats 1500000 in
theorem packet {w : World} {p : Program} {loose : List Str} {mean : ExcName → Option Value} {mg mb : Str → Option Value} {dp un : Nat} {gd : Option (List Code)} {cn : Str} {cs : Scope} {a : Addr} {ccd : Value} {cl : List (Str × Addr)} {outer : List Env} {A₀ : Around} {base h₀ : Heap} {L : Addr} {m : Str → Option Value} {s : Shared} {Q E : Value → Shared → Prop} {rest : List (Addr × Obj)} {ap dP ak ah dh ahc aw dw awc : Addr} {eP eh ew : List DictEntry} {nP nk nh nhc nw nwc : Nat} {vs : List Value} {bs : List (Array UInt8)} {t1 th tw ts tu ta ti q0 : Tok}
    (B : Below A₀ base outer h₀) (F : Fr h₀ L s.heap m) (X : (hd.heap_1 w.params).In h₀) (T : Top p loose mean mg mb h₀) (hk : cs.kind = .function)
    (N₁ : News h₀ L s.heap [(ap, instObj 282 dP), (dP, dictOf eP nP), (ak, listOf #[.ref ah, .ref aw] nk), (ah, instObj 167 dh), (dh, dictOf eh nh), (ahc, listOf #[] nhc), (aw, instObj 167 dw), (dw, dictOf ew nw), (awc, listOf vs.toArray nwc)]) (N₂ : News h₀ L s.heap rest) (apart : ∀ q ∈ rest, q.1 ∉ ([(ap, instObj 282 dP), (dP, dictOf eP nP), (ak, listOf #[.ref ah, .ref aw] nk), (ah, instObj 167 dh), (dh, dictOf eh nh), (ahc, listOf #[] nhc), (aw, instObj 167 dw), (dw, dictOf ew nw), (awc, listOf vs.toArray nwc)] : List (Addr × Obj)).map (·.1))
    (aP : AbsD eP 20) (aH : AbsD eh 20) (aW : AbsD ew 20) (hv : BAre vs bs) (gePknown : getL "known" eP = some (some (.ref ak))) (gehchallenges : getL "challenges" eh = some (some (.ref ahc))) (gewchallenges : getL "challenges" ew = some (some (.ref awc))) (gehaddress : getL "address" eh = some (some (.str (Str.ofString "home") th))) (gewaddress : getL "address" ew = some (some (.str (Str.ofString "away") tw))) (geProle : getL "role" eP = some (some (.str (Str.ofString "server") t1))) (gePactive : getL "active" eP = some (some (.ref ah))) (gePlastproven : getL "last_proven" eP = some (some (.ref ah))) (gePhighest : getL "highest" eP = some (some (.int (-1) q0))) (mePpathof : getL "path_of" eP = some none) (mehisproven : getL "is_proven" eh = some none) (mewrenew : getL "renew" ew = some none) (gehstate : getL "state" eh = some (some (.str (Str.ofString "proven") ts))) (gewstate : getL "state" ew = some (some (.str (Str.ofString "unproven") tu))) (ho : @LT.lt Nat _ dP ap ∧ @LT.lt Nat _ ap dh ∧ @LT.lt Nat _ dh ah ∧ @LT.lt Nat _ ah ahc ∧ @LT.lt Nat _ ahc ak ∧ @LT.lt Nat _ ak dw ∧ @LT.lt Nat _ dw aw ∧ @LT.lt Nat _ aw awc) (hdp : dp + 10 < recursionLimit) (hun : un + 300 < cLine)
    (ret : ∀ (q1 : Tok) (q2 : Tok) (q3 : Tok) (u1 : Tok) (vh : Int) (nP2 : Nat) (h' : Heap) (tk' : Nat), (∀ x ∈ ([(ap, instObj 282 dP), (dP, dictOf (putL "active" (PyData.keyHash w.params "active") (.str "active" q3) (.ref aw) (putL "last_proven" (PyData.keyHash w.params "last_proven") (.str "last_proven" q2) (.ref ah) (putL "highest" (PyData.keyHash w.params "highest") (.str "highest" q1) (.int vh u1) eP))) nP2), (ak, listOf #[.ref ah, .ref aw] nk), (ah, instObj 167 dh), (dh, dictOf eh nh), (ahc, listOf #[] nhc), (aw, instObj 167 dw), (dw, dictOf ew nw), (awc, listOf vs.toArray nwc)] : List (Addr × Obj)), ∀ q ∈ rest, x.1 ≠ q.1) → Fr h₀ L h' m → News h₀ L h' [(ap, instObj 282 dP), (dP, dictOf (putL "active" (PyData.keyHash w.params "active") (.str "active" q3) (.ref aw) (putL "last_proven" (PyData.keyHash w.params "last_proven") (.str "last_proven" q2) (.ref ah) (putL "highest" (PyData.keyHash w.params "highest") (.str "highest" q1) (.int vh u1) eP))) nP2), (ak, listOf #[.ref ah, .ref aw] nk), (ah, instObj 167 dh), (dh, dictOf eh nh), (ahc, listOf #[] nhc), (aw, instObj 167 dw), (dw, dictOf ew nw), (awc, listOf vs.toArray nwc)] → News h₀ L h' rest → Q (.bool true) { s with heap := h', toks := tk' }) :
    wpAny (model PySem.Challenge.rw_pf0276_01.row.toRowW.prog w) (ktrTop dp un gd cn cs L a ccd cl outer) (call (.ref 213) [.ref ap, .str (Str.ofString "away") ta, .int 1 ti, .bool false]) Q E s := by
  revert X; k_fill; intro X
  obtain ⟨Pq, hPq⟩ : ∃ Pq : Addr → Value → List (Addr × Obj) → Prop, ∀ L' v news, Pq L' v news ↔ (∃ q1 : Tok, ∃ q2 : Tok, ∃ q3 : Tok, ∃ u1 : Tok, ∃ vh : Int, ∃ nP2 : Nat, v = .bool true ∧ news = [(ap, instObj 282 dP), (dP, dictOf (putL "active" (PyData.keyHash w.params "active") (.str "active" q3) (.ref aw) (putL "last_proven" (PyData.keyHash w.params "last_proven") (.str "last_proven" q2) (.ref ah) (putL "highest" (PyData.keyHash w.params "highest") (.str "highest" q1) (.int vh u1) eP))) nP2), (ak, listOf #[.ref ah, .ref aw] nk), (ah, instObj 167 dh), (dh, dictOf eh nh), (ahc, listOf #[] nhc), (aw, instObj 167 dw), (dw, dictOf ew nw), (awc, listOf vs.toArray nwc)]) := ⟨fun L' v news => ∃ q1 : Tok, ∃ q2 : Tok, ∃ q3 : Tok, ∃ u1 : Tok, ∃ vh : Int, ∃ nP2 : Nat, v = .bool true ∧ news = [(ap, instObj 282 dP), (dP, dictOf (putL "active" (PyData.keyHash w.params "active") (.str "active" q3) (.ref aw) (putL "last_proven" (PyData.keyHash w.params "last_proven") (.str "last_proven" q2) (.ref ah) (putL "highest" (PyData.keyHash w.params "highest") (.str "highest" q1) (.int vh u1) eP))) nP2), (ak, listOf #[.ref ah, .ref aw] nk), (ah, instObj 167 dh), (dh, dictOf eh nh), (ahc, listOf #[] nhc), (aw, instObj 167 dw), (dw, dictOf ew nw), (awc, listOf vs.toArray nwc)], fun _ _ _ => Iff.rfl⟩
  k_dflt (refine' enter_frame (K := hd.heap_1 w.params) [("self", .ref ap), ("address", .str (Str.ofString "away") ta), ("number", .int 1 ti), ("is_probing", .bool false)] (Pq) B F X T N₁ N₂ apart rfl rfl hk ?k6 ?k7 ?k8 ?k9 ?kB ?h ?c2 ?c3 ?c4 ?c5 ?ret; (case k6 => k_is); (case k7 => k_is); (case k8 => ktr_room); (case k9 => exact BindsTo.of_eq rfl); (case c5 => decide); (case kB => exact locs rfl); (case c2 => exact rfl); (case c3 => exact rfl); (case c4 => exact rfl))
  case ret =>
    rintro L' v news' h' tk' - - hl2 hpq F' N' R'
    obtain ⟨q1, q2, q3, u1, vh, nP2, rfl, rfl⟩ := (hPq _ _ _).mp hpq
    exact ret q1 q2 q3 u1 vh nP2 h' tk' hl2 F' N' R'
  intro g L' h₁ F N B X T l1
  clear ret N₁ N₂ apart
  k_lt l1
  w_top off
  k_with_none
  (k_with "setAttr ref" => (k_here; k_dflt (refine' set_dict ?k1 ?k2 ?k3 ?k4 ?k5 ?k6 ?k7 ?k8 ?k9 ?k10 ?k11 ?k12 ?k13 ?_; (case k1 | k2 | k3 => k_asm); (case k4 => k_inst); (case k5 => exact rfl); (case k6 | k7 | k8 | k9 => k_is); (case k10 => exact getL_some _ _ (AbsD.plain (by ktr_rel))); (case k11 => exact put_abs (by ktr_rel)); (case k12 => k_upd); (case k13 => exact le_abs (by ktr_rel) (by omega)); k_whole; intro h'_w F'_w N'_w; (try k_sweep))))
  (k_with "compareOp In" => (k_here; (with_reducible show wpAny _ _ (compareOp CmpOp.In (Value.bytes _ _) (Value.ref _)) _ _ _); k_dflt (first
      | (refine' in_miss ?N ?m ?v ?b ?_; (case N => k_asm); (case m => k_mem); (case v => first | assumption | exact BAre.nil); (case b => first | assumption | exact List.not_mem_nil); k_whole)
      | (refine' in_hit ?N ?m ?v ?b ?_; (case N => k_asm); (case m => k_mem); (case v | b => assumption); k_whole))))
  (k_with "compareOp In str ref" => (k_here; (with_reducible show wpAny _ _ (compareOp CmpOp.In (Value.str _ _) (Value.ref _)) _ _ _); k_dflt (refine' in_K_strs ?F ?X ?l ?i ?b ?_; (case F | X => k_asm); (case l => k_is); (case i => kde_strs); (case b => exact rfl); k_whole)))
  (k_with "call ref" => (k_here; k_dflt (refine' CallsTo.use ?c ?B ?F ?X ?T ?kA ?kF ?k ?kh ?N ?s ?d ?u ?_; (case c => solve_by_elim only [hPr, hCh]); (case kA | kF => exact rfl); (case B | F | X | T => k_asm); (case k | kh => exact rfl); (case N => k_asm); (case s => k_subL); (case d => ktr_room); (case u => ktr_units); k_whole; intro t'_w h'_w tk'_w F'_w N'_w; (try k_sweep))))
  repeat' (first | (k_unfold; (try dsimp only)) | (k_end; wrow_close) | (walk1; (all_goals (try dsimp only))) | (dsimp only; walk1) | (leave1; walk_say "STEP leave1"; try dsimp only) | fail "no step")
  all_goals (exact End1.intro _ (by assumption) (by assumption) (by k_subL) ((hPq _ _ _).mpr ⟨_, _, _, _, _, _, rfl, rfl⟩))
set_option maxRecDepth 100000 in
set_option maxHeartbeats 1500000 in
theorem frames_home {w : World} {p : Program} {loose : List Str} {mean : ExcName → Option Value} {mg mb : Str → Option Value} {dp un : Nat} {gd : Option (List Code)} {cn : Str} {cs : Scope} {a : Addr} {ccd : Value} {cl : List (Str × Addr)} {outer : List Env} {A₀ : Around} {base h₀ : Heap} {L : Addr} {m : Str → Option Value} {s : Shared} {Q E : Value → Shared → Prop} {rest : List (Addr × Obj)} {ap dP ak ah dh ahc aw dw awc : Addr} {eP eh ew : List DictEntry} {nP nk nh nhc nw nwc : Nat} {vs : List Value} {bs : List (Array UInt8)}{ac dc : Addr} {ec : List DictEntry} {nc : Nat} {zz : Addr} {oz : Obj} {fpw fch as_ ds acw aa : Addr} {es : List DictEntry} {ns na : Nat} {ln1 ln2 qn1 qn2 : Str} {pa1 pa2 : Arguments} {b1 b2 : Expr} {sc1 sc2 : Scope} {cl1 cl2 : List (Str × Addr)} {pm1 pm2 ct1 ct2 : Value} {c1 c2 : Addr} {oc1 oc2 ocw : Obj} {kc : Nat} {n now wait : Int} {tn tnow tch : Tok} {bw : Array UInt8}{th tw ts : Tok} {wv dv fv sv lv : Value}
    (B : Below A₀ base outer h₀) (F : Fr h₀ L s.heap m) (X : (hd.heap_1 w.params).In h₀) (T : Top p loose mean mg mb h₀) (hk : cs.kind = .function)
    (N₁ : News h₀ L s.heap [(ac, instObj 449 dc), (dc, dictOf ec nc), (ap, instObj 282 dP), (dP, dictOf eP nP), (ah, instObj 167 dh), (dh, dictOf eh nh), (aa, listOf #[] na), (zz, oz)]) (N₂ : News h₀ L s.heap rest) (apart : ∀ q ∈ rest, q.1 ∉ ([(ac, instObj 449 dc), (dc, dictOf ec nc), (ap, instObj 282 dP), (dP, dictOf eP nP), (ah, instObj 167 dh), (dh, dictOf eh nh), (aa, listOf #[] na), (zz, oz)] : List (Addr × Obj)).map (·.1))
    (aP : AbsD eP 20) (aH : AbsD eh 20) (aW : AbsD ew 20) (hv : BAre vs bs) (gePknown : getL "known" eP = some (some (.ref ak))) (gehchallenges : getL "challenges" eh = some (some (.ref ahc))) (gewchallenges : getL "challenges" ew = some (some (.ref awc))) (aC : AbsD ec kc) (hkc : kc ≤ 900) (aS : AbsD es 60) (gecpaths : getL "paths" ec = some (some (.ref ap))) (gecshake : getL "shake" ec = some (some (.ref as_))) (gecchallenged : getL "challenged" ec = some (some (.int n tn))) (gecprobewait : getL "probe_wait" ec = some (some (.ref fpw))) (gecchoose : getL "choose" ec = some (some (.ref fch))) (gesiscomplete : getL "is_complete" es = some (some (.bool true))) (gePanswers : getL "answers" eP = some (some (.ref aa))) (hPr : CallsTo w fpw [(fpw, kla_obj ln1 qn1 pa1 b1 sc1 cl1 pm1 c1 ct1), (c1, oc1), (acw, ocw)] [] (fun t => .int wait t)) (hCh : ∀ t1 t2 t3 : Tok, CallsTo w fch [(fch, kla_obj ln2 qn2 pa2 b2 sc2 cl2 pm2 c2 ct2), (c2, oc2)] [.str (Str.ofString "challenge") t1, .int n t2, .int 8 t3] (fun t => .bytes bw t)) (CH : CodeHd h₀ 473 469) (mePwantschallenge : getL "wants_challenge" eP = some none) (gehaddress : getL "address" eh = some (some (.str (Str.ofString "home") th))) (gewaddress : getL "address" ew = some (some (.str (Str.ofString "away") tw))) (gePactive : getL "active" eP = some (some (.ref ah))) (gehstate : getL "state" eh = some (some (.str (Str.ofString "proven") ts))) (ho : @LT.lt Nat _ acw dc ∧ @LT.lt Nat _ dc ac ∧ @LT.lt Nat _ ac ds ∧ @LT.lt Nat _ ds as_ ∧ @LT.lt Nat _ as_ dP ∧ @LT.lt Nat _ dP ap ∧ @LT.lt Nat _ ap dh ∧ @LT.lt Nat _ dh ah ∧ @LT.lt Nat _ ah ahc ∧ @LT.lt Nat _ ahc ak ∧ @LT.lt Nat _ ak c1 ∧ @LT.lt Nat _ c1 fpw ∧ @LT.lt Nat _ fpw c2 ∧ @LT.lt Nat _ c2 fch ∧ @LT.lt Nat _ fch dw ∧ @LT.lt Nat _ dw aw ∧ @LT.lt Nat _ aw awc) (haa : @Ne Nat aa dP ∧ @Ne Nat aa dc ∧ @Ne Nat aa dw ∧ @Ne Nat aa awc) (hzz : @LT.lt Nat _ awc zz) (hdp : dp + 10 < recursionLimit) (hun : un + 300 < cLine)
    (ret : ∀ (q1 : Tok) (an : Addr) (al : Addr) (nP2 : Nat) (n2 : Nat) (n3 : Nat) (h' : Heap) (tk' : Nat), (∀ x ∈ ([(ac, instObj 449 dc), (dc, dictOf ec nc), (ap, instObj 282 dP), (dP, dictOf (putL "answers" (PyData.keyHash w.params "answers") (.str "answers" q1) (.ref an) eP) nP2), (ah, instObj 167 dh), (dh, dictOf eh nh), (an, listOf #[] n2), (al, listOf #[] n3), (zz, oz)] : List (Addr × Obj)), ∀ q ∈ rest, x.1 ≠ q.1) → @LT.lt Nat _ aw al ∧ @LT.lt Nat _ zz al ∧ @LT.lt Nat _ al an → Fr h₀ L h' m → News h₀ L h' [(ac, instObj 449 dc), (dc, dictOf ec nc), (ap, instObj 282 dP), (dP, dictOf (putL "answers" (PyData.keyHash w.params "answers") (.str "answers" q1) (.ref an) eP) nP2), (ah, instObj 167 dh), (dh, dictOf eh nh), (an, listOf #[] n2), (al, listOf #[] n3), (zz, oz)] → News h₀ L h' rest → Q (.ref al) { s with heap := h', toks := tk' }) :
    wpAny (model PySem.Challenge.rw_pf0276_01.row.toRowW.prog w) (ktrTop dp un gd cn cs L a ccd cl outer) (call (.ref 26) [.ref ac, .int now tnow]) Q E s := by
  revert X; k_fill; intro X
  obtain ⟨Pq, hPq⟩ : ∃ Pq : Addr → Value → List (Addr × Obj) → Prop, ∀ L' v news, Pq L' v news ↔ (∃ q1 : Tok, ∃ an : Addr, ∃ al : Addr, ∃ nP2 : Nat, ∃ n2 : Nat, ∃ n3 : Nat, v = .ref al ∧ news = [(ac, instObj 449 dc), (dc, dictOf ec nc), (ap, instObj 282 dP), (dP, dictOf (putL "answers" (PyData.keyHash w.params "answers") (.str "answers" q1) (.ref an) eP) nP2), (ah, instObj 167 dh), (dh, dictOf eh nh), (an, listOf #[] n2), (al, listOf #[] n3), (zz, oz)] ∧ @LT.lt Nat _ aw al ∧ @LT.lt Nat _ zz al ∧ @LT.lt Nat _ al an) := ⟨fun L' v news => ∃ q1 : Tok, ∃ an : Addr, ∃ al : Addr, ∃ nP2 : Nat, ∃ n2 : Nat, ∃ n3 : Nat, v = .ref al ∧ news = [(ac, instObj 449 dc), (dc, dictOf ec nc), (ap, instObj 282 dP), (dP, dictOf (putL "answers" (PyData.keyHash w.params "answers") (.str "answers" q1) (.ref an) eP) nP2), (ah, instObj 167 dh), (dh, dictOf eh nh), (an, listOf #[] n2), (al, listOf #[] n3), (zz, oz)] ∧ @LT.lt Nat _ aw al ∧ @LT.lt Nat _ zz al ∧ @LT.lt Nat _ al an, fun _ _ _ => Iff.rfl⟩
  k_dflt (refine' enter_frameC (K := hd.heap_1 w.params) [("conn", .ref ac), ("now", .int now tnow)] (Pq) B F X T N₁ N₂ apart rfl rfl hk ?k6 ?k7 ?k8 ?k9 ?kB ?kD ?h ?c2 ?c3 ?c4 ?ret; (case k6 => k_is); (case k7 => k_is); (case k8 => ktr_room); (case k9 => exact BindsTo.of_eq rfl); (case kD => decide); (case kB => exact rfl); (case c2 => exact rfl); (case c3 => exact rfl); (case c4 => exact rfl))
  case ret =>
    rintro L' v news' h' tk' - - hl2 hpq F' N' R'
    obtain ⟨q1, an, al, nP2, n2, n3, rfl, rfl, hfacts⟩ := (hPq _ _ _).mp hpq
    exact ret q1 an al nP2 n2 n3 h' tk' hl2 hfacts F' N' R'
  intro g L' h₁ tk cells F N Y B X T l1; dsimp only [cellsFrom, bindL, bindC] at F Y; k_cells Y; (try simp only [List.cons_append, List.nil_append] at N)
  clear ret N₁ N₂ apart
  k_lt l1
  w_top off
  k_with_none
  (k_with "setAttr ref" => (k_here; k_dflt (refine' set_dict ?k1 ?k2 ?k3 ?k4 ?k5 ?k6 ?k7 ?k8 ?k9 ?k10 ?k11 ?k12 ?k13 ?_; (case k1 | k2 | k3 => k_asm); (case k4 => k_inst); (case k5 => exact rfl); (case k6 | k7 | k8 | k9 => k_is); (case k10 => exact getL_some _ _ (AbsD.plain (by ktr_rel))); (case k11 => exact put_abs (by ktr_rel)); (case k12 => k_upd); (case k13 => exact le_abs (by ktr_rel) (by omega)); k_whole; intro h'_w F'_w N'_w; (try k_sweep))))
  (k_with "compareOp In" => (k_here; (with_reducible show wpAny _ _ (compareOp CmpOp.In (Value.bytes _ _) (Value.ref _)) _ _ _); k_dflt (first
      | (refine' in_miss ?N ?m ?v ?b ?_; (case N => k_asm); (case m => k_mem); (case v => first | assumption | exact BAre.nil); (case b => first | assumption | exact List.not_mem_nil); k_whole)
      | (refine' in_hit ?N ?m ?v ?b ?_; (case N => k_asm); (case m => k_mem); (case v | b => assumption); k_whole))))
  (k_with "compareOp In str ref" => (k_here; (with_reducible show wpAny _ _ (compareOp CmpOp.In (Value.str _ _) (Value.ref _)) _ _ _); k_dflt (refine' in_K_strs ?F ?X ?l ?i ?b ?_; (case F | X => k_asm); (case l => k_is); (case i => kde_strs); (case b => exact rfl); k_whole)))
  (k_with "call ref" => (k_here; k_dflt (refine' CallsTo.use ?c ?B ?F ?X ?T ?kA ?kF ?k ?kh ?N ?s ?d ?u ?_; (case c => solve_by_elim only [hPr, hCh]); (case kA | kF => exact rfl); (case B | F | X | T => k_asm); (case k | kh => exact rfl); (case N => k_asm); (case s => k_subL); (case d => ktr_room); (case u => ktr_units); k_whole; intro t'_w h'_w tk'_w F'_w N'_w; (try k_sweep))))
  (k_with "call builtin:list.append" => (k_here; (with_reducible show wpAny _ _ (call (Value.builtin _) [Value.ref _, Value.bytes _ _]) _ _ _); k_dflt (refine' append_K ?k1 ?k2 ?k3 ?_ ?z; (case k1 | k2 => k_asm); (case k3 => k_upd); (case z => first | size_fits | (simp only [List.size_toArray]; refine Nat.le_trans (by assumption) ?_; decide) | (simp only [List.size_toArray]; refine Nat.lt_of_le_of_lt (by assumption) ?_; decide)); k_whole); intro h'_w F'_w N'_w; (try k_sweep)))
  (k_with "exec Assign cons ListComp" => (k_here; k_dflt (refine empty_assign (F₀ := by k_asm) (by rfl) (by with_unfolding_all rfl) (by with_unfolding_all rfl) (by decide) (by rfl) (by decide) (by rfl) (by rfl) ?_)))
  (k_with "eval ListComp" => (k_here; k_dflt (refine empty_eval (F₀ := by k_asm) (by with_unfolding_all rfl) (by decide) (by rfl) (by decide) ?_)))
  (k_with "EmptySrc" => (k_here; k_dflt (refine' EmptySrc.intro ?a ?b ?c ?d ?_; (case a => exact rfl); (case b | c => k_asm); (case d => k_mem)); (first | unfold FinA0 | unfold FinE0); intro D'_w h'_w tk'_w F'_w N'_w l1_w; k_lt l1_w; (try dsimp only); (try k_sweep)))
  repeat' (first | (k_unfold; (try dsimp only)) | (k_end; wrow_close) | (walk1; (all_goals (try dsimp only))) | (dsimp only; walk1) | (leave1; walk_say "STEP leave1"; try dsimp only) | fail "no step")
  all_goals (exact End1.intro _ (by assumption) (by assumption) (by k_subL) ((hPq _ _ _).mpr ⟨_, _, _, _, _, _, rfl, rfl, by omega⟩))
set_option maxRecDepth 100000 in
set_option maxHeartbeats 1500000 in
theorem frames_proven {w : World} {p : Program} {loose : List Str} {mean : ExcName → Option Value} {mg mb : Str → Option Value} {dp un : Nat} {gd : Option (List Code)} {cn : Str} {cs : Scope} {a : Addr} {ccd : Value} {cl : List (Str × Addr)} {outer : List Env} {A₀ : Around} {base h₀ : Heap} {L : Addr} {m : Str → Option Value} {s : Shared} {Q E : Value → Shared → Prop} {rest : List (Addr × Obj)} {ap dP ak ah dh ahc aw dw awc : Addr} {eP eh ew : List DictEntry} {nP nk nh nhc nw nwc : Nat} {vs : List Value} {bs : List (Array UInt8)}{ac dc : Addr} {ec : List DictEntry} {nc : Nat} {zz : Addr} {oz : Obj} {fpw fch as_ ds acw aa : Addr} {es : List DictEntry} {ns na : Nat} {ln1 ln2 qn1 qn2 : Str} {pa1 pa2 : Arguments} {b1 b2 : Expr} {sc1 sc2 : Scope} {cl1 cl2 : List (Str × Addr)} {pm1 pm2 ct1 ct2 : Value} {c1 c2 : Addr} {oc1 oc2 ocw : Obj} {kc : Nat} {n now wait : Int} {tn tnow tch : Tok} {bw : Array UInt8}{th tw ts : Tok} {wv dv fv sv lv : Value}
    (B : Below A₀ base outer h₀) (F : Fr h₀ L s.heap m) (X : (hd.heap_1 w.params).In h₀) (T : Top p loose mean mg mb h₀) (hk : cs.kind = .function)
    (N₁ : News h₀ L s.heap [(ac, instObj 449 dc), (dc, dictOf ec nc), (ap, instObj 282 dP), (dP, dictOf eP nP), (aw, instObj 167 dw), (dw, dictOf ew nw), (aa, listOf #[] na), (zz, oz)]) (N₂ : News h₀ L s.heap rest) (apart : ∀ q ∈ rest, q.1 ∉ ([(ac, instObj 449 dc), (dc, dictOf ec nc), (ap, instObj 282 dP), (dP, dictOf eP nP), (aw, instObj 167 dw), (dw, dictOf ew nw), (aa, listOf #[] na), (zz, oz)] : List (Addr × Obj)).map (·.1))
    (aP : AbsD eP 20) (aH : AbsD eh 20) (aW : AbsD ew 20) (hv : BAre vs bs) (gePknown : getL "known" eP = some (some (.ref ak))) (gehchallenges : getL "challenges" eh = some (some (.ref ahc))) (gewchallenges : getL "challenges" ew = some (some (.ref awc))) (aC : AbsD ec kc) (hkc : kc ≤ 900) (aS : AbsD es 60) (gecpaths : getL "paths" ec = some (some (.ref ap))) (gecshake : getL "shake" ec = some (some (.ref as_))) (gecchallenged : getL "challenged" ec = some (some (.int n tn))) (gecprobewait : getL "probe_wait" ec = some (some (.ref fpw))) (gecchoose : getL "choose" ec = some (some (.ref fch))) (gesiscomplete : getL "is_complete" es = some (some (.bool true))) (gePanswers : getL "answers" eP = some (some (.ref aa))) (hPr : CallsTo w fpw [(fpw, kla_obj ln1 qn1 pa1 b1 sc1 cl1 pm1 c1 ct1), (c1, oc1), (acw, ocw)] [] (fun t => .int wait t)) (hCh : ∀ t1 t2 t3 : Tok, CallsTo w fch [(fch, kla_obj ln2 qn2 pa2 b2 sc2 cl2 pm2 c2 ct2), (c2, oc2)] [.str (Str.ofString "challenge") t1, .int n t2, .int 8 t3] (fun t => .bytes bw t)) (CH : CodeHd h₀ 473 469) (mePwantschallenge : getL "wants_challenge" eP = some none) (gehaddress : getL "address" eh = some (some (.str (Str.ofString "home") th))) (gewaddress : getL "address" ew = some (some (.str (Str.ofString "away") tw))) (ho : @LT.lt Nat _ acw dc ∧ @LT.lt Nat _ dc ac ∧ @LT.lt Nat _ ac ds ∧ @LT.lt Nat _ ds as_ ∧ @LT.lt Nat _ as_ dP ∧ @LT.lt Nat _ dP ap ∧ @LT.lt Nat _ ap dh ∧ @LT.lt Nat _ dh ah ∧ @LT.lt Nat _ ah ahc ∧ @LT.lt Nat _ ahc ak ∧ @LT.lt Nat _ ak c1 ∧ @LT.lt Nat _ c1 fpw ∧ @LT.lt Nat _ fpw c2 ∧ @LT.lt Nat _ c2 fch ∧ @LT.lt Nat _ fch dw ∧ @LT.lt Nat _ dw aw ∧ @LT.lt Nat _ aw awc) (haa : @Ne Nat aa dP ∧ @Ne Nat aa dc ∧ @Ne Nat aa dw ∧ @Ne Nat aa awc) (hzz : @LT.lt Nat _ awc zz) (gePactive : getL "active" eP = some (some (.ref aw))) (gewstate : getL "state" ew = some (some (.str (Str.ofString "proven") ts))) (hdp : dp + 10 < recursionLimit) (hun : un + 300 < cLine)
    (ret : ∀ (q1 : Tok) (an : Addr) (al : Addr) (nP2 : Nat) (n2 : Nat) (n3 : Nat) (h' : Heap) (tk' : Nat), (∀ x ∈ ([(ac, instObj 449 dc), (dc, dictOf ec nc), (ap, instObj 282 dP), (dP, dictOf (putL "answers" (PyData.keyHash w.params "answers") (.str "answers" q1) (.ref an) eP) nP2), (aw, instObj 167 dw), (dw, dictOf ew nw), (an, listOf #[] n2), (al, listOf #[] n3), (zz, oz)] : List (Addr × Obj)), ∀ q ∈ rest, x.1 ≠ q.1) → @LT.lt Nat _ aw al ∧ @LT.lt Nat _ zz al ∧ @LT.lt Nat _ al an → Fr h₀ L h' m → News h₀ L h' [(ac, instObj 449 dc), (dc, dictOf ec nc), (ap, instObj 282 dP), (dP, dictOf (putL "answers" (PyData.keyHash w.params "answers") (.str "answers" q1) (.ref an) eP) nP2), (aw, instObj 167 dw), (dw, dictOf ew nw), (an, listOf #[] n2), (al, listOf #[] n3), (zz, oz)] → News h₀ L h' rest → Q (.ref al) { s with heap := h', toks := tk' }) :
    wpAny (model PySem.Challenge.rw_pf0276_01.row.toRowW.prog w) (ktrTop dp un gd cn cs L a ccd cl outer) (call (.ref 26) [.ref ac, .int now tnow]) Q E s := by
  revert X; k_fill; intro X
  obtain ⟨Pq, hPq⟩ : ∃ Pq : Addr → Value → List (Addr × Obj) → Prop, ∀ L' v news, Pq L' v news ↔ (∃ q1 : Tok, ∃ an : Addr, ∃ al : Addr, ∃ nP2 : Nat, ∃ n2 : Nat, ∃ n3 : Nat, v = .ref al ∧ news = [(ac, instObj 449 dc), (dc, dictOf ec nc), (ap, instObj 282 dP), (dP, dictOf (putL "answers" (PyData.keyHash w.params "answers") (.str "answers" q1) (.ref an) eP) nP2), (aw, instObj 167 dw), (dw, dictOf ew nw), (an, listOf #[] n2), (al, listOf #[] n3), (zz, oz)] ∧ @LT.lt Nat _ aw al ∧ @LT.lt Nat _ zz al ∧ @LT.lt Nat _ al an) := ⟨fun L' v news => ∃ q1 : Tok, ∃ an : Addr, ∃ al : Addr, ∃ nP2 : Nat, ∃ n2 : Nat, ∃ n3 : Nat, v = .ref al ∧ news = [(ac, instObj 449 dc), (dc, dictOf ec nc), (ap, instObj 282 dP), (dP, dictOf (putL "answers" (PyData.keyHash w.params "answers") (.str "answers" q1) (.ref an) eP) nP2), (aw, instObj 167 dw), (dw, dictOf ew nw), (an, listOf #[] n2), (al, listOf #[] n3), (zz, oz)] ∧ @LT.lt Nat _ aw al ∧ @LT.lt Nat _ zz al ∧ @LT.lt Nat _ al an, fun _ _ _ => Iff.rfl⟩
  k_dflt (refine' enter_frameC (K := hd.heap_1 w.params) [("conn", .ref ac), ("now", .int now tnow)] (Pq) B F X T N₁ N₂ apart rfl rfl hk ?k6 ?k7 ?k8 ?k9 ?kB ?kD ?h ?c2 ?c3 ?c4 ?ret; (case k6 => k_is); (case k7 => k_is); (case k8 => ktr_room); (case k9 => exact BindsTo.of_eq rfl); (case kD => decide); (case kB => exact rfl); (case c2 => exact rfl); (case c3 => exact rfl); (case c4 => exact rfl))
  case ret =>
    rintro L' v news' h' tk' - - hl2 hpq F' N' R'
    obtain ⟨q1, an, al, nP2, n2, n3, rfl, rfl, hfacts⟩ := (hPq _ _ _).mp hpq
    exact ret q1 an al nP2 n2 n3 h' tk' hl2 hfacts F' N' R'
  intro g L' h₁ tk cells F N Y B X T l1; dsimp only [cellsFrom, bindL, bindC] at F Y; k_cells Y; (try simp only [List.cons_append, List.nil_append] at N)
  clear ret N₁ N₂ apart
  k_lt l1
  w_top off
  k_with_none
  (k_with "setAttr ref" => (k_here; k_dflt (refine' set_dict ?k1 ?k2 ?k3 ?k4 ?k5 ?k6 ?k7 ?k8 ?k9 ?k10 ?k11 ?k12 ?k13 ?_; (case k1 | k2 | k3 => k_asm); (case k4 => k_inst); (case k5 => exact rfl); (case k6 | k7 | k8 | k9 => k_is); (case k10 => exact getL_some _ _ (AbsD.plain (by ktr_rel))); (case k11 => exact put_abs (by ktr_rel)); (case k12 => k_upd); (case k13 => exact le_abs (by ktr_rel) (by omega)); k_whole; intro h'_w F'_w N'_w; (try k_sweep))))
  (k_with "compareOp In" => (k_here; (with_reducible show wpAny _ _ (compareOp CmpOp.In (Value.bytes _ _) (Value.ref _)) _ _ _); k_dflt (first
      | (refine' in_miss ?N ?m ?v ?b ?_; (case N => k_asm); (case m => k_mem); (case v => first | assumption | exact BAre.nil); (case b => first | assumption | exact List.not_mem_nil); k_whole)
      | (refine' in_hit ?N ?m ?v ?b ?_; (case N => k_asm); (case m => k_mem); (case v | b => assumption); k_whole))))
  (k_with "compareOp In str ref" => (k_here; (with_reducible show wpAny _ _ (compareOp CmpOp.In (Value.str _ _) (Value.ref _)) _ _ _); k_dflt (refine' in_K_strs ?F ?X ?l ?i ?b ?_; (case F | X => k_asm); (case l => k_is); (case i => kde_strs); (case b => exact rfl); k_whole)))
  (k_with "call ref" => (k_here; k_dflt (refine' CallsTo.use ?c ?B ?F ?X ?T ?kA ?kF ?k ?kh ?N ?s ?d ?u ?_; (case c => solve_by_elim only [hPr, hCh]); (case kA | kF => exact rfl); (case B | F | X | T => k_asm); (case k | kh => exact rfl); (case N => k_asm); (case s => k_subL); (case d => ktr_room); (case u => ktr_units); k_whole; intro t'_w h'_w tk'_w F'_w N'_w; (try k_sweep))))
  (k_with "call builtin:list.append" => (k_here; (with_reducible show wpAny _ _ (call (Value.builtin _) [Value.ref _, Value.bytes _ _]) _ _ _); k_dflt (refine' append_K ?k1 ?k2 ?k3 ?_ ?z; (case k1 | k2 => k_asm); (case k3 => k_upd); (case z => first | size_fits | (simp only [List.size_toArray]; refine Nat.le_trans (by assumption) ?_; decide) | (simp only [List.size_toArray]; refine Nat.lt_of_le_of_lt (by assumption) ?_; decide)); k_whole); intro h'_w F'_w N'_w; (try k_sweep)))
  (k_with "exec Assign cons ListComp" => (k_here; k_dflt (refine empty_assign (F₀ := by k_asm) (by rfl) (by with_unfolding_all rfl) (by with_unfolding_all rfl) (by decide) (by rfl) (by decide) (by rfl) (by rfl) ?_)))
  (k_with "eval ListComp" => (k_here; k_dflt (refine empty_eval (F₀ := by k_asm) (by with_unfolding_all rfl) (by decide) (by rfl) (by decide) ?_)))
  (k_with "EmptySrc" => (k_here; k_dflt (refine' EmptySrc.intro ?a ?b ?c ?d ?_; (case a => exact rfl); (case b | c => k_asm); (case d => k_mem)); (first | unfold FinA0 | unfold FinE0); intro D'_w h'_w tk'_w F'_w N'_w l1_w; k_lt l1_w; (try dsimp only); (try k_sweep)))
  repeat' (first | (k_unfold; (try dsimp only)) | (k_end; wrow_close) | (walk1; (all_goals (try dsimp only))) | (dsimp only; walk1) | (leave1; walk_say "STEP leave1"; try dsimp only) | fail "no step")
  all_goals (exact End1.intro _ (by assumption) (by assumption) (by k_subL) ((hPq _ _ _).mpr ⟨_, _, _, _, _, _, rfl, rfl, by omega⟩))
set_option maxRecDepth 100000 in
set_option maxHeartbeats 1500000 in
theorem frames_tried_none {w : World} {p : Program} {loose : List Str} {mean : ExcName → Option Value} {mg mb : Str → Option Value} {dp un : Nat} {gd : Option (List Code)} {cn : Str} {cs : Scope} {a : Addr} {ccd : Value} {cl : List (Str × Addr)} {outer : List Env} {A₀ : Around} {base h₀ : Heap} {L : Addr} {m : Str → Option Value} {s : Shared} {Q E : Value → Shared → Prop} {rest : List (Addr × Obj)} {ap dP ak ah dh ahc aw dw awc : Addr} {eP eh ew : List DictEntry} {nP nk nh nhc nw nwc : Nat} {vs : List Value} {bs : List (Array UInt8)}{ac dc : Addr} {ec : List DictEntry} {nc : Nat} {zz : Addr} {oz : Obj} {fpw fch as_ ds acw aa : Addr} {es : List DictEntry} {ns na : Nat} {ln1 ln2 qn1 qn2 : Str} {pa1 pa2 : Arguments} {b1 b2 : Expr} {sc1 sc2 : Scope} {cl1 cl2 : List (Str × Addr)} {pm1 pm2 ct1 ct2 : Value} {c1 c2 : Addr} {oc1 oc2 ocw : Obj} {kc : Nat} {n now wait : Int} {tn tnow tch : Tok} {bw : Array UInt8}{th tw ts : Tok} {wv dv fv sv lv : Value}
    (B : Below A₀ base outer h₀) (F : Fr h₀ L s.heap m) (X : (hd.heap_1 w.params).In h₀) (T : Top p loose mean mg mb h₀) (hk : cs.kind = .function)
    (N₁ : News h₀ L s.heap [(ac, instObj 449 dc), (dc, dictOf ec nc), (ap, instObj 282 dP), (dP, dictOf eP nP), (aw, instObj 167 dw), (dw, dictOf ew nw), (aa, listOf #[] na), (zz, oz)]) (N₂ : News h₀ L s.heap rest) (apart : ∀ q ∈ rest, q.1 ∉ ([(ac, instObj 449 dc), (dc, dictOf ec nc), (ap, instObj 282 dP), (dP, dictOf eP nP), (aw, instObj 167 dw), (dw, dictOf ew nw), (aa, listOf #[] na), (zz, oz)] : List (Addr × Obj)).map (·.1))
    (aP : AbsD eP 20) (aH : AbsD eh 20) (aW : AbsD ew 20) (hv : BAre vs bs) (gePknown : getL "known" eP = some (some (.ref ak))) (gehchallenges : getL "challenges" eh = some (some (.ref ahc))) (gewchallenges : getL "challenges" ew = some (some (.ref awc))) (aC : AbsD ec kc) (hkc : kc ≤ 900) (aS : AbsD es 60) (gecpaths : getL "paths" ec = some (some (.ref ap))) (gecshake : getL "shake" ec = some (some (.ref as_))) (gecchallenged : getL "challenged" ec = some (some (.int n tn))) (gecprobewait : getL "probe_wait" ec = some (some (.ref fpw))) (gecchoose : getL "choose" ec = some (some (.ref fch))) (gesiscomplete : getL "is_complete" es = some (some (.bool true))) (gePanswers : getL "answers" eP = some (some (.ref aa))) (hPr : CallsTo w fpw [(fpw, kla_obj ln1 qn1 pa1 b1 sc1 cl1 pm1 c1 ct1), (c1, oc1), (acw, ocw)] [] (fun t => .int wait t)) (hCh : ∀ t1 t2 t3 : Tok, CallsTo w fch [(fch, kla_obj ln2 qn2 pa2 b2 sc2 cl2 pm2 c2 ct2), (c2, oc2)] [.str (Str.ofString "challenge") t1, .int n t2, .int 8 t3] (fun t => .bytes bw t)) (CH : CodeHd h₀ 473 469) (mePwantschallenge : getL "wants_challenge" eP = some none) (gehaddress : getL "address" eh = some (some (.str (Str.ofString "home") th))) (gewaddress : getL "address" ew = some (some (.str (Str.ofString "away") tw))) (ho : @LT.lt Nat _ acw dc ∧ @LT.lt Nat _ dc ac ∧ @LT.lt Nat _ ac ds ∧ @LT.lt Nat _ ds as_ ∧ @LT.lt Nat _ as_ dP ∧ @LT.lt Nat _ dP ap ∧ @LT.lt Nat _ ap dh ∧ @LT.lt Nat _ dh ah ∧ @LT.lt Nat _ ah ahc ∧ @LT.lt Nat _ ahc ak ∧ @LT.lt Nat _ ak c1 ∧ @LT.lt Nat _ c1 fpw ∧ @LT.lt Nat _ fpw c2 ∧ @LT.lt Nat _ c2 fch ∧ @LT.lt Nat _ fch dw ∧ @LT.lt Nat _ dw aw ∧ @LT.lt Nat _ aw awc) (haa : @Ne Nat aa dP ∧ @Ne Nat aa dc ∧ @Ne Nat aa dw ∧ @Ne Nat aa awc) (hzz : @LT.lt Nat _ awc zz) (gePactive : getL "active" eP = some (some (.ref aw))) (gewstate : getL "state" ew = some (some (.str (Str.ofString "trying") ts))) (gewwantsmore : getL "wants_more" ew = some (some (.bool false))) (hdp : dp + 10 < recursionLimit) (hun : un + 300 < cLine)
    (ret : ∀ (q1 : Tok) (an : Addr) (al : Addr) (nP2 : Nat) (n2 : Nat) (n3 : Nat) (h' : Heap) (tk' : Nat), (∀ x ∈ ([(ac, instObj 449 dc), (dc, dictOf ec nc), (ap, instObj 282 dP), (dP, dictOf (putL "answers" (PyData.keyHash w.params "answers") (.str "answers" q1) (.ref an) eP) nP2), (aw, instObj 167 dw), (dw, dictOf ew nw), (an, listOf #[] n2), (al, listOf #[] n3), (zz, oz)] : List (Addr × Obj)), ∀ q ∈ rest, x.1 ≠ q.1) → @LT.lt Nat _ aw al ∧ @LT.lt Nat _ zz al ∧ @LT.lt Nat _ al an → Fr h₀ L h' m → News h₀ L h' [(ac, instObj 449 dc), (dc, dictOf ec nc), (ap, instObj 282 dP), (dP, dictOf (putL "answers" (PyData.keyHash w.params "answers") (.str "answers" q1) (.ref an) eP) nP2), (aw, instObj 167 dw), (dw, dictOf ew nw), (an, listOf #[] n2), (al, listOf #[] n3), (zz, oz)] → News h₀ L h' rest → Q (.ref al) { s with heap := h', toks := tk' }) :
    wpAny (model PySem.Challenge.rw_pf0276_01.row.toRowW.prog w) (ktrTop dp un gd cn cs L a ccd cl outer) (call (.ref 26) [.ref ac, .int now tnow]) Q E s := by
  revert X; k_fill; intro X
  obtain ⟨Pq, hPq⟩ : ∃ Pq : Addr → Value → List (Addr × Obj) → Prop, ∀ L' v news, Pq L' v news ↔ (∃ q1 : Tok, ∃ an : Addr, ∃ al : Addr, ∃ nP2 : Nat, ∃ n2 : Nat, ∃ n3 : Nat, v = .ref al ∧ news = [(ac, instObj 449 dc), (dc, dictOf ec nc), (ap, instObj 282 dP), (dP, dictOf (putL "answers" (PyData.keyHash w.params "answers") (.str "answers" q1) (.ref an) eP) nP2), (aw, instObj 167 dw), (dw, dictOf ew nw), (an, listOf #[] n2), (al, listOf #[] n3), (zz, oz)] ∧ @LT.lt Nat _ aw al ∧ @LT.lt Nat _ zz al ∧ @LT.lt Nat _ al an) := ⟨fun L' v news => ∃ q1 : Tok, ∃ an : Addr, ∃ al : Addr, ∃ nP2 : Nat, ∃ n2 : Nat, ∃ n3 : Nat, v = .ref al ∧ news = [(ac, instObj 449 dc), (dc, dictOf ec nc), (ap, instObj 282 dP), (dP, dictOf (putL "answers" (PyData.keyHash w.params "answers") (.str "answers" q1) (.ref an) eP) nP2), (aw, instObj 167 dw), (dw, dictOf ew nw), (an, listOf #[] n2), (al, listOf #[] n3), (zz, oz)] ∧ @LT.lt Nat _ aw al ∧ @LT.lt Nat _ zz al ∧ @LT.lt Nat _ al an, fun _ _ _ => Iff.rfl⟩
  k_dflt (refine' enter_frameC (K := hd.heap_1 w.params) [("conn", .ref ac), ("now", .int now tnow)] (Pq) B F X T N₁ N₂ apart rfl rfl hk ?k6 ?k7 ?k8 ?k9 ?kB ?kD ?h ?c2 ?c3 ?c4 ?ret; (case k6 => k_is); (case k7 => k_is); (case k8 => ktr_room); (case k9 => exact BindsTo.of_eq rfl); (case kD => decide); (case kB => exact rfl); (case c2 => exact rfl); (case c3 => exact rfl); (case c4 => exact rfl))
  case ret =>
    rintro L' v news' h' tk' - - hl2 hpq F' N' R'
    obtain ⟨q1, an, al, nP2, n2, n3, rfl, rfl, hfacts⟩ := (hPq _ _ _).mp hpq
    exact ret q1 an al nP2 n2 n3 h' tk' hl2 hfacts F' N' R'
  intro g L' h₁ tk cells F N Y B X T l1; dsimp only [cellsFrom, bindL, bindC] at F Y; k_cells Y; (try simp only [List.cons_append, List.nil_append] at N)
  clear ret N₁ N₂ apart
  k_lt l1
  w_top off
  k_with_none
  (k_with "setAttr ref" => (k_here; k_dflt (refine' set_dict ?k1 ?k2 ?k3 ?k4 ?k5 ?k6 ?k7 ?k8 ?k9 ?k10 ?k11 ?k12 ?k13 ?_; (case k1 | k2 | k3 => k_asm); (case k4 => k_inst); (case k5 => exact rfl); (case k6 | k7 | k8 | k9 => k_is); (case k10 => exact getL_some _ _ (AbsD.plain (by ktr_rel))); (case k11 => exact put_abs (by ktr_rel)); (case k12 => k_upd); (case k13 => exact le_abs (by ktr_rel) (by omega)); k_whole; intro h'_w F'_w N'_w; (try k_sweep))))
  (k_with "compareOp In" => (k_here; (with_reducible show wpAny _ _ (compareOp CmpOp.In (Value.bytes _ _) (Value.ref _)) _ _ _); k_dflt (first
      | (refine' in_miss ?N ?m ?v ?b ?_; (case N => k_asm); (case m => k_mem); (case v => first | assumption | exact BAre.nil); (case b => first | assumption | exact List.not_mem_nil); k_whole)
      | (refine' in_hit ?N ?m ?v ?b ?_; (case N => k_asm); (case m => k_mem); (case v | b => assumption); k_whole))))
  (k_with "compareOp In str ref" => (k_here; (with_reducible show wpAny _ _ (compareOp CmpOp.In (Value.str _ _) (Value.ref _)) _ _ _); k_dflt (refine' in_K_strs ?F ?X ?l ?i ?b ?_; (case F | X => k_asm); (case l => k_is); (case i => kde_strs); (case b => exact rfl); k_whole)))
  (k_with "call ref" => (k_here; k_dflt (refine' CallsTo.use ?c ?B ?F ?X ?T ?kA ?kF ?k ?kh ?N ?s ?d ?u ?_; (case c => solve_by_elim only [hPr, hCh]); (case kA | kF => exact rfl); (case B | F | X | T => k_asm); (case k | kh => exact rfl); (case N => k_asm); (case s => k_subL); (case d => ktr_room); (case u => ktr_units); k_whole; intro t'_w h'_w tk'_w F'_w N'_w; (try k_sweep))))
  (k_with "call builtin:list.append" => (k_here; (with_reducible show wpAny _ _ (call (Value.builtin _) [Value.ref _, Value.bytes _ _]) _ _ _); k_dflt (refine' append_K ?k1 ?k2 ?k3 ?_ ?z; (case k1 | k2 => k_asm); (case k3 => k_upd); (case z => first | size_fits | (simp only [List.size_toArray]; refine Nat.le_trans (by assumption) ?_; decide) | (simp only [List.size_toArray]; refine Nat.lt_of_le_of_lt (by assumption) ?_; decide)); k_whole); intro h'_w F'_w N'_w; (try k_sweep)))
  (k_with "exec Assign cons ListComp" => (k_here; k_dflt (refine empty_assign (F₀ := by k_asm) (by rfl) (by with_unfolding_all rfl) (by with_unfolding_all rfl) (by decide) (by rfl) (by decide) (by rfl) (by rfl) ?_)))
  (k_with "eval ListComp" => (k_here; k_dflt (refine empty_eval (F₀ := by k_asm) (by with_unfolding_all rfl) (by decide) (by rfl) (by decide) ?_)))
  (k_with "EmptySrc" => (k_here; k_dflt (refine' EmptySrc.intro ?a ?b ?c ?d ?_; (case a => exact rfl); (case b | c => k_asm); (case d => k_mem)); (first | unfold FinA0 | unfold FinE0); intro D'_w h'_w tk'_w F'_w N'_w l1_w; k_lt l1_w; (try dsimp only); (try k_sweep)))
  repeat' (first | (k_unfold; (try dsimp only)) | (k_end; wrow_close) | (walk1; (all_goals (try dsimp only))) | (dsimp only; walk1) | (leave1; walk_say "STEP leave1"; try dsimp only) | fail "no step")
  all_goals (exact End1.intro _ (by assumption) (by assumption) (by k_subL) ((hPq _ _ _).mpr ⟨_, _, _, _, _, _, rfl, rfl, by omega⟩))
set_option maxRecDepth 100000 in
set_option maxHeartbeats 4000000 in
theorem frames_again {w : World} {p : Program} {loose : List Str} {mean : ExcName → Option Value} {mg mb : Str → Option Value} {dp un : Nat} {gd : Option (List Code)} {cn : Str} {cs : Scope} {a : Addr} {ccd : Value} {cl : List (Str × Addr)} {outer : List Env} {A₀ : Around} {base h₀ : Heap} {L : Addr} {m : Str → Option Value} {s : Shared} {Q E : Value → Shared → Prop} {rest : List (Addr × Obj)} {ap dP ak ah dh ahc aw dw awc : Addr} {eP eh ew : List DictEntry} {nP nk nh nhc nw nwc : Nat} {vs : List Value} {bs : List (Array UInt8)}{ac dc : Addr} {ec : List DictEntry} {nc : Nat} {zz : Addr} {oz : Obj} {fpw fch as_ ds acw aa : Addr} {es : List DictEntry} {ns na : Nat} {ln1 ln2 qn1 qn2 : Str} {pa1 pa2 : Arguments} {b1 b2 : Expr} {sc1 sc2 : Scope} {cl1 cl2 : List (Str × Addr)} {pm1 pm2 ct1 ct2 : Value} {c1 c2 : Addr} {oc1 oc2 ocw : Obj} {kc : Nat} {n now wait : Int} {tn tnow tch : Tok} {bw : Array UInt8}{th tw ts : Tok} {wv dv fv sv lv : Value}
    (B : Below A₀ base outer h₀) (F : Fr h₀ L s.heap m) (X : (hd.heap_1 w.params).In h₀) (T : Top p loose mean mg mb h₀) (hk : cs.kind = .function)
    (N₁ : News h₀ L s.heap [(ac, instObj 449 dc), (dc, dictOf ec nc), (fpw, kla_obj ln1 qn1 pa1 b1 sc1 cl1 pm1 c1 ct1), (c1, oc1), (acw, ocw), (fch, kla_obj ln2 qn2 pa2 b2 sc2 cl2 pm2 c2 ct2), (c2, oc2), (as_, instObj 449 ds), (ds, dictOf es ns), (ap, instObj 282 dP), (dP, dictOf eP nP), (aw, instObj 167 dw), (dw, dictOf ew nw), (awc, listOf vs.toArray nwc), (aa, listOf #[] na), (zz, oz)]) (N₂ : News h₀ L s.heap rest) (apart : ∀ q ∈ rest, q.1 ∉ ([(ac, instObj 449 dc), (dc, dictOf ec nc), (fpw, kla_obj ln1 qn1 pa1 b1 sc1 cl1 pm1 c1 ct1), (c1, oc1), (acw, ocw), (fch, kla_obj ln2 qn2 pa2 b2 sc2 cl2 pm2 c2 ct2), (c2, oc2), (as_, instObj 449 ds), (ds, dictOf es ns), (ap, instObj 282 dP), (dP, dictOf eP nP), (aw, instObj 167 dw), (dw, dictOf ew nw), (awc, listOf vs.toArray nwc), (aa, listOf #[] na), (zz, oz)] : List (Addr × Obj)).map (·.1))
    (aP : AbsD eP 20) (aH : AbsD eh 20) (aW : AbsD ew 20) (hv : BAre vs bs) (gePknown : getL "known" eP = some (some (.ref ak))) (gehchallenges : getL "challenges" eh = some (some (.ref ahc))) (gewchallenges : getL "challenges" ew = some (some (.ref awc))) (aC : AbsD ec kc) (hkc : kc ≤ 900) (aS : AbsD es 60) (gecpaths : getL "paths" ec = some (some (.ref ap))) (gecshake : getL "shake" ec = some (some (.ref as_))) (gecchallenged : getL "challenged" ec = some (some (.int n tn))) (gecprobewait : getL "probe_wait" ec = some (some (.ref fpw))) (gecchoose : getL "choose" ec = some (some (.ref fch))) (gesiscomplete : getL "is_complete" es = some (some (.bool true))) (gePanswers : getL "answers" eP = some (some (.ref aa))) (hPr : CallsTo w fpw [(fpw, kla_obj ln1 qn1 pa1 b1 sc1 cl1 pm1 c1 ct1), (c1, oc1), (acw, ocw)] [] (fun t => .int wait t)) (hCh : ∀ t1 t2 t3 : Tok, CallsTo w fch [(fch, kla_obj ln2 qn2 pa2 b2 sc2 cl2 pm2 c2 ct2), (c2, oc2)] [.str (Str.ofString "challenge") t1, .int n t2, .int 8 t3] (fun t => .bytes bw t)) (CH : CodeHd h₀ 473 469) (mePwantschallenge : getL "wants_challenge" eP = some none) (gehaddress : getL "address" eh = some (some (.str (Str.ofString "home") th))) (gewaddress : getL "address" ew = some (some (.str (Str.ofString "away") tw))) (ho : @LT.lt Nat _ acw dc ∧ @LT.lt Nat _ dc ac ∧ @LT.lt Nat _ ac ds ∧ @LT.lt Nat _ ds as_ ∧ @LT.lt Nat _ as_ dP ∧ @LT.lt Nat _ dP ap ∧ @LT.lt Nat _ ap dh ∧ @LT.lt Nat _ dh ah ∧ @LT.lt Nat _ ah ahc ∧ @LT.lt Nat _ ahc ak ∧ @LT.lt Nat _ ak c1 ∧ @LT.lt Nat _ c1 fpw ∧ @LT.lt Nat _ fpw c2 ∧ @LT.lt Nat _ c2 fch ∧ @LT.lt Nat _ fch dw ∧ @LT.lt Nat _ dw aw ∧ @LT.lt Nat _ aw awc) (haa : @Ne Nat aa dP ∧ @Ne Nat aa dc ∧ @Ne Nat aa dw ∧ @Ne Nat aa awc) (hzz : @LT.lt Nat _ awc zz) (mewchallenge : getL "challenge" ew = some none) (gePactive : getL "active" eP = some (some (.ref aw))) (gewstate : getL "state" ew = some (some (.str (Str.ofString "trying") ts))) (gewwantsmore : getL "wants_more" ew = some (some (.bool true))) (hvl : vs.length ≤ 50) (hdp : dp + 10 < recursionLimit) (hun : un + 300 < cLine)
    (ret : ∀ (q1 : Tok) (q2 : Tok) (q3 : Tok) (q4 : Tok) (u1 : Tok) (u2 : Tok) (u4 : Tok) (u5 : Tok) (u6 : Tok) (an : Addr) (al : Addr) (at_ : Addr) (nP2 : Nat) (nc2 : Nat) (nw2 : Nat) (n2 : Nat) (n3 : Nat) (n4 : Nat) (h' : Heap) (tk' : Nat), (∀ x ∈ ([(ac, instObj 449 dc), (dc, dictOf (putL "again_at" (PyData.keyHash w.params "again_at") (.str "again_at" q3) (.int (now + wait) u2) (putL "challenged" (PyData.keyHash w.params "challenged") (.str "challenged" q2) (.int (n + 1) u1) ec)) nc2), (fpw, kla_obj ln1 qn1 pa1 b1 sc1 cl1 pm1 c1 ct1), (c1, oc1), (acw, ocw), (fch, kla_obj ln2 qn2 pa2 b2 sc2 cl2 pm2 c2 ct2), (c2, oc2), (as_, instObj 449 ds), (ds, dictOf es ns), (ap, instObj 282 dP), (dP, dictOf (putL "answers" (PyData.keyHash w.params "answers") (.str "answers" q1) (.ref an) eP) nP2), (aw, instObj 167 dw), (dw, dictOf (putL "wants_more" (PyData.keyHash w.params "wants_more") (.str "wants_more" q4) (.bool false) ew) nw2), (awc, listOf (vs.toArray.push (Value.bytes bw u4)) n4), (an, listOf #[] n2), (at_, { cls := .type "tuple", data := .seq #[.str (Str.ofString "path_challenge") u5, .bytes bw u6] }), (al, listOf #[.ref at_] n3), (zz, oz)] : List (Addr × Obj)), ∀ q ∈ rest, x.1 ≠ q.1) → @LT.lt Nat _ aw al ∧ @LT.lt Nat _ zz al ∧ @LT.lt Nat _ al an ∧ @LT.lt Nat _ an at_ → Fr h₀ L h' m → News h₀ L h' [(ac, instObj 449 dc), (dc, dictOf (putL "again_at" (PyData.keyHash w.params "again_at") (.str "again_at" q3) (.int (now + wait) u2) (putL "challenged" (PyData.keyHash w.params "challenged") (.str "challenged" q2) (.int (n + 1) u1) ec)) nc2), (fpw, kla_obj ln1 qn1 pa1 b1 sc1 cl1 pm1 c1 ct1), (c1, oc1), (acw, ocw), (fch, kla_obj ln2 qn2 pa2 b2 sc2 cl2 pm2 c2 ct2), (c2, oc2), (as_, instObj 449 ds), (ds, dictOf es ns), (ap, instObj 282 dP), (dP, dictOf (putL "answers" (PyData.keyHash w.params "answers") (.str "answers" q1) (.ref an) eP) nP2), (aw, instObj 167 dw), (dw, dictOf (putL "wants_more" (PyData.keyHash w.params "wants_more") (.str "wants_more" q4) (.bool false) ew) nw2), (awc, listOf (vs.toArray.push (Value.bytes bw u4)) n4), (an, listOf #[] n2), (at_, { cls := .type "tuple", data := .seq #[.str (Str.ofString "path_challenge") u5, .bytes bw u6] }), (al, listOf #[.ref at_] n3), (zz, oz)] → News h₀ L h' rest → Q (.ref al) { s with heap := h', toks := tk' }) :
    wpAny (model PySem.Challenge.rw_pf0276_01.row.toRowW.prog w) (ktrTop dp un gd cn cs L a ccd cl outer) (call (.ref 26) [.ref ac, .int now tnow]) Q E s := by
  revert X; k_fill; intro X
  obtain ⟨Pq, hPq⟩ : ∃ Pq : Addr → Value → List (Addr × Obj) → Prop, ∀ L' v news, Pq L' v news ↔ (∃ q1 : Tok, ∃ q2 : Tok, ∃ q3 : Tok, ∃ q4 : Tok, ∃ u1 : Tok, ∃ u2 : Tok, ∃ u4 : Tok, ∃ u5 : Tok, ∃ u6 : Tok, ∃ an : Addr, ∃ al : Addr, ∃ at_ : Addr, ∃ nP2 : Nat, ∃ nc2 : Nat, ∃ nw2 : Nat, ∃ n2 : Nat, ∃ n3 : Nat, ∃ n4 : Nat, v = .ref al ∧ news = [(ac, instObj 449 dc), (dc, dictOf (putL "again_at" (PyData.keyHash w.params "again_at") (.str "again_at" q3) (.int (now + wait) u2) (putL "challenged" (PyData.keyHash w.params "challenged") (.str "challenged" q2) (.int (n + 1) u1) ec)) nc2), (fpw, kla_obj ln1 qn1 pa1 b1 sc1 cl1 pm1 c1 ct1), (c1, oc1), (acw, ocw), (fch, kla_obj ln2 qn2 pa2 b2 sc2 cl2 pm2 c2 ct2), (c2, oc2), (as_, instObj 449 ds), (ds, dictOf es ns), (ap, instObj 282 dP), (dP, dictOf (putL "answers" (PyData.keyHash w.params "answers") (.str "answers" q1) (.ref an) eP) nP2), (aw, instObj 167 dw), (dw, dictOf (putL "wants_more" (PyData.keyHash w.params "wants_more") (.str "wants_more" q4) (.bool false) ew) nw2), (awc, listOf (vs.toArray.push (Value.bytes bw u4)) n4), (an, listOf #[] n2), (at_, { cls := .type "tuple", data := .seq #[.str (Str.ofString "path_challenge") u5, .bytes bw u6] }), (al, listOf #[.ref at_] n3), (zz, oz)] ∧ @LT.lt Nat _ aw al ∧ @LT.lt Nat _ zz al ∧ @LT.lt Nat _ al an ∧ @LT.lt Nat _ an at_) := ⟨fun L' v news => ∃ q1 : Tok, ∃ q2 : Tok, ∃ q3 : Tok, ∃ q4 : Tok, ∃ u1 : Tok, ∃ u2 : Tok, ∃ u4 : Tok, ∃ u5 : Tok, ∃ u6 : Tok, ∃ an : Addr, ∃ al : Addr, ∃ at_ : Addr, ∃ nP2 : Nat, ∃ nc2 : Nat, ∃ nw2 : Nat, ∃ n2 : Nat, ∃ n3 : Nat, ∃ n4 : Nat, v = .ref al ∧ news = [(ac, instObj 449 dc), (dc, dictOf (putL "again_at" (PyData.keyHash w.params "again_at") (.str "again_at" q3) (.int (now + wait) u2) (putL "challenged" (PyData.keyHash w.params "challenged") (.str "challenged" q2) (.int (n + 1) u1) ec)) nc2), (fpw, kla_obj ln1 qn1 pa1 b1 sc1 cl1 pm1 c1 ct1), (c1, oc1), (acw, ocw), (fch, kla_obj ln2 qn2 pa2 b2 sc2 cl2 pm2 c2 ct2), (c2, oc2), (as_, instObj 449 ds), (ds, dictOf es ns), (ap, instObj 282 dP), (dP, dictOf (putL "answers" (PyData.keyHash w.params "answers") (.str "answers" q1) (.ref an) eP) nP2), (aw, instObj 167 dw), (dw, dictOf (putL "wants_more" (PyData.keyHash w.params "wants_more") (.str "wants_more" q4) (.bool false) ew) nw2), (awc, listOf (vs.toArray.push (Value.bytes bw u4)) n4), (an, listOf #[] n2), (at_, { cls := .type "tuple", data := .seq #[.str (Str.ofString "path_challenge") u5, .bytes bw u6] }), (al, listOf #[.ref at_] n3), (zz, oz)] ∧ @LT.lt Nat _ aw al ∧ @LT.lt Nat _ zz al ∧ @LT.lt Nat _ al an ∧ @LT.lt Nat _ an at_, fun _ _ _ => Iff.rfl⟩
  k_dflt (refine' enter_frameC (K := hd.heap_1 w.params) [("conn", .ref ac), ("now", .int now tnow)] (Pq) B F X T N₁ N₂ apart rfl rfl hk ?k6 ?k7 ?k8 ?k9 ?kB ?kD ?h ?c2 ?c3 ?c4 ?ret; (case k6 => k_is); (case k7 => k_is); (case k8 => ktr_room); (case k9 => exact BindsTo.of_eq rfl); (case kD => decide); (case kB => exact rfl); (case c2 => exact rfl); (case c3 => exact rfl); (case c4 => exact rfl))
  case ret =>
    rintro L' v news' h' tk' - - hl2 hpq F' N' R'
    obtain ⟨q1, q2, q3, q4, u1, u2, u4, u5, u6, an, al, at_, nP2, nc2, nw2, n2, n3, n4, rfl, rfl, hfacts⟩ := (hPq _ _ _).mp hpq
    exact ret q1 q2 q3 q4 u1 u2 u4 u5 u6 an al at_ nP2 nc2 nw2 n2 n3 n4 h' tk' hl2 hfacts F' N' R'
  intro g L' h₁ tk cells F N Y B X T l1; dsimp only [cellsFrom, bindL, bindC] at F Y; k_cells Y; (try simp only [List.cons_append, List.nil_append] at N)
  clear ret N₁ N₂ apart
  k_lt l1
  w_top off
  k_with_none
  (k_with "setAttr ref" => (k_here; k_dflt (refine' set_dict ?k1 ?k2 ?k3 ?k4 ?k5 ?k6 ?k7 ?k8 ?k9 ?k10 ?k11 ?k12 ?k13 ?_; (case k1 | k2 | k3 => k_asm); (case k4 => k_inst); (case k5 => exact rfl); (case k6 | k7 | k8 | k9 => k_is); (case k10 => exact getL_some _ _ (AbsD.plain (by ktr_rel))); (case k11 => exact put_abs (by ktr_rel)); (case k12 => k_upd); (case k13 => exact le_abs (by ktr_rel) (by omega)); k_whole; intro h'_w F'_w N'_w; (try k_sweep))))
  (k_with "compareOp In" => (k_here; (with_reducible show wpAny _ _ (compareOp CmpOp.In (Value.bytes _ _) (Value.ref _)) _ _ _); k_dflt (first
      | (refine' in_miss ?N ?m ?v ?b ?_; (case N => k_asm); (case m => k_mem); (case v => first | assumption | exact BAre.nil); (case b => first | assumption | exact List.not_mem_nil); k_whole)
      | (refine' in_hit ?N ?m ?v ?b ?_; (case N => k_asm); (case m => k_mem); (case v | b => assumption); k_whole))))
  (k_with "compareOp In str ref" => (k_here; (with_reducible show wpAny _ _ (compareOp CmpOp.In (Value.str _ _) (Value.ref _)) _ _ _); k_dflt (refine' in_K_strs ?F ?X ?l ?i ?b ?_; (case F | X => k_asm); (case l => k_is); (case i => kde_strs); (case b => exact rfl); k_whole)))
  (k_with "call ref" => (k_here; k_dflt (refine' CallsTo.use ?c ?B ?F ?X ?T ?kA ?kF ?k ?kh ?N ?s ?d ?u ?_; (case c => solve_by_elim only [hPr, hCh]); (case kA | kF => exact rfl); (case B | F | X | T => k_asm); (case k | kh => exact rfl); (case N => k_asm); (case s => k_subL); (case d => ktr_room); (case u => ktr_units); k_whole; intro t'_w h'_w tk'_w F'_w N'_w; (try k_sweep))))
  (k_with "call builtin:list.append" => (k_here; (with_reducible show wpAny _ _ (call (Value.builtin _) [Value.ref _, Value.bytes _ _]) _ _ _); k_dflt (refine' append_K ?k1 ?k2 ?k3 ?_ ?z; (case k1 | k2 => k_asm); (case k3 => k_upd); (case z => first | size_fits | (simp only [List.size_toArray]; refine Nat.le_trans (by assumption) ?_; decide) | (simp only [List.size_toArray]; refine Nat.lt_of_le_of_lt (by assumption) ?_; decide)); k_whole); intro h'_w F'_w N'_w; (try k_sweep)))
  (k_with "exec Assign cons ListComp" => (k_here; k_dflt (refine empty_assign (F₀ := by k_asm) (by rfl) (by with_unfolding_all rfl) (by with_unfolding_all rfl) (by decide) (by rfl) (by decide) (by rfl) (by rfl) ?_)))
  (k_with "eval ListComp" => (k_here; k_dflt (refine empty_eval (F₀ := by k_asm) (by with_unfolding_all rfl) (by decide) (by rfl) (by decide) ?_)))
  (k_with "EmptySrc" => (k_here; k_dflt (refine' EmptySrc.intro ?a ?b ?c ?d ?_; (case a => exact rfl); (case b | c => k_asm); (case d => k_mem)); (first | unfold FinA0 | unfold FinE0); intro D'_w h'_w tk'_w F'_w N'_w l1_w; k_lt l1_w; (try dsimp only); (try k_sweep)))
  repeat' (first | (k_unfold; (try dsimp only)) | (k_end; wrow_close) | (walk1; (all_goals (try dsimp only))) | (dsimp only; walk1) | (leave1; walk_say "STEP leave1"; try dsimp only) | fail "no step")
  all_goals (exact End1.intro _ (by assumption) (by assumption) (by k_subL) ((hPq _ _ _).mpr ⟨_, _, _, _, _, _, _, _, _, _, _, _, _, _, _, _, _, _, rfl, rfl, by omega⟩))
set_option maxRecDepth 100000 in
set_option maxHeartbeats 4000000 in
theorem frames_first {w : World} {p : Program} {loose : List Str} {mean : ExcName → Option Value} {mg mb : Str → Option Value} {dp un : Nat} {gd : Option (List Code)} {cn : Str} {cs : Scope} {a : Addr} {ccd : Value} {cl : List (Str × Addr)} {outer : List Env} {A₀ : Around} {base h₀ : Heap} {L : Addr} {m : Str → Option Value} {s : Shared} {Q E : Value → Shared → Prop} {rest : List (Addr × Obj)} {ap dP ak ah dh ahc aw dw awc : Addr} {eP eh ew : List DictEntry} {nP nk nh nhc nw nwc : Nat} {vs : List Value} {bs : List (Array UInt8)}{ac dc : Addr} {ec : List DictEntry} {nc : Nat} {zz : Addr} {oz : Obj} {fpw fch as_ ds acw aa : Addr} {es : List DictEntry} {ns na : Nat} {ln1 ln2 qn1 qn2 : Str} {pa1 pa2 : Arguments} {b1 b2 : Expr} {sc1 sc2 : Scope} {cl1 cl2 : List (Str × Addr)} {pm1 pm2 ct1 ct2 : Value} {c1 c2 : Addr} {oc1 oc2 ocw : Obj} {kc : Nat} {n now wait : Int} {tn tnow tch : Tok} {bw : Array UInt8}{th tw ts : Tok} {wv dv fv sv lv : Value}
    (B : Below A₀ base outer h₀) (F : Fr h₀ L s.heap m) (X : (hd.heap_1 w.params).In h₀) (T : Top p loose mean mg mb h₀) (hk : cs.kind = .function)
    (N₁ : News h₀ L s.heap [(ac, instObj 449 dc), (dc, dictOf ec nc), (fpw, kla_obj ln1 qn1 pa1 b1 sc1 cl1 pm1 c1 ct1), (c1, oc1), (acw, ocw), (fch, kla_obj ln2 qn2 pa2 b2 sc2 cl2 pm2 c2 ct2), (c2, oc2), (as_, instObj 449 ds), (ds, dictOf es ns), (ap, instObj 282 dP), (dP, dictOf eP nP), (aw, instObj 167 dw), (dw, dictOf ew nw), (awc, listOf vs.toArray nwc), (aa, listOf #[] na), (zz, oz)]) (N₂ : News h₀ L s.heap rest) (apart : ∀ q ∈ rest, q.1 ∉ ([(ac, instObj 449 dc), (dc, dictOf ec nc), (fpw, kla_obj ln1 qn1 pa1 b1 sc1 cl1 pm1 c1 ct1), (c1, oc1), (acw, ocw), (fch, kla_obj ln2 qn2 pa2 b2 sc2 cl2 pm2 c2 ct2), (c2, oc2), (as_, instObj 449 ds), (ds, dictOf es ns), (ap, instObj 282 dP), (dP, dictOf eP nP), (aw, instObj 167 dw), (dw, dictOf ew nw), (awc, listOf vs.toArray nwc), (aa, listOf #[] na), (zz, oz)] : List (Addr × Obj)).map (·.1))
    (aP : AbsD eP 20) (aH : AbsD eh 20) (aW : AbsD ew 20) (hv : BAre vs bs) (gePknown : getL "known" eP = some (some (.ref ak))) (gehchallenges : getL "challenges" eh = some (some (.ref ahc))) (gewchallenges : getL "challenges" ew = some (some (.ref awc))) (aC : AbsD ec kc) (hkc : kc ≤ 900) (aS : AbsD es 60) (gecpaths : getL "paths" ec = some (some (.ref ap))) (gecshake : getL "shake" ec = some (some (.ref as_))) (gecchallenged : getL "challenged" ec = some (some (.int n tn))) (gecprobewait : getL "probe_wait" ec = some (some (.ref fpw))) (gecchoose : getL "choose" ec = some (some (.ref fch))) (gesiscomplete : getL "is_complete" es = some (some (.bool true))) (gePanswers : getL "answers" eP = some (some (.ref aa))) (hPr : CallsTo w fpw [(fpw, kla_obj ln1 qn1 pa1 b1 sc1 cl1 pm1 c1 ct1), (c1, oc1), (acw, ocw)] [] (fun t => .int wait t)) (hCh : ∀ t1 t2 t3 : Tok, CallsTo w fch [(fch, kla_obj ln2 qn2 pa2 b2 sc2 cl2 pm2 c2 ct2), (c2, oc2)] [.str (Str.ofString "challenge") t1, .int n t2, .int 8 t3] (fun t => .bytes bw t)) (CH : CodeHd h₀ 473 469) (mePwantschallenge : getL "wants_challenge" eP = some none) (gehaddress : getL "address" eh = some (some (.str (Str.ofString "home") th))) (gewaddress : getL "address" ew = some (some (.str (Str.ofString "away") tw))) (ho : @LT.lt Nat _ acw dc ∧ @LT.lt Nat _ dc ac ∧ @LT.lt Nat _ ac ds ∧ @LT.lt Nat _ ds as_ ∧ @LT.lt Nat _ as_ dP ∧ @LT.lt Nat _ dP ap ∧ @LT.lt Nat _ ap dh ∧ @LT.lt Nat _ dh ah ∧ @LT.lt Nat _ ah ahc ∧ @LT.lt Nat _ ahc ak ∧ @LT.lt Nat _ ak c1 ∧ @LT.lt Nat _ c1 fpw ∧ @LT.lt Nat _ fpw c2 ∧ @LT.lt Nat _ c2 fch ∧ @LT.lt Nat _ fch dw ∧ @LT.lt Nat _ dw aw ∧ @LT.lt Nat _ aw awc) (haa : @Ne Nat aa dP ∧ @Ne Nat aa dc ∧ @Ne Nat aa dw ∧ @Ne Nat aa awc) (hzz : @LT.lt Nat _ awc zz) (mewchallenge : getL "challenge" ew = some none) (gePactive : getL "active" eP = some (some (.ref aw))) (gewstate : getL "state" ew = some (some (.str (Str.ofString "unproven") ts))) (gewwantsmore : getL "wants_more" ew = some (some (.bool false))) (gewdeadline : getL "deadline" ew = some (some (dv))) (hdp : dp + 10 < recursionLimit) (hun : un + 300 < cLine)
    (ret : ∀ (q1 : Tok) (q2 : Tok) (q3 : Tok) (q4 : Tok) (q5 : Tok) (q6 : Tok) (q7 : Tok) (u1 : Tok) (u2 : Tok) (u4 : Tok) (u5 : Tok) (u6 : Tok) (an : Addr) (al : Addr) (at_ : Addr) (nP2 : Nat) (nc2 : Nat) (nw2 : Nat) (n2 : Nat) (n3 : Nat) (n4 : Nat) (am : Addr) (q0 : Tok) (u7 : Tok) (h' : Heap) (tk' : Nat), (∀ x ∈ ([(ac, instObj 449 dc), (dc, dictOf (putL "again_at" (PyData.keyHash w.params "again_at") (.str "again_at" q3) (.int (now + wait) u2) (putL "challenged" (PyData.keyHash w.params "challenged") (.str "challenged" q2) (.int (n + 1) u1) ec)) nc2), (fpw, kla_obj ln1 qn1 pa1 b1 sc1 cl1 pm1 c1 ct1), (c1, oc1), (acw, ocw), (fch, kla_obj ln2 qn2 pa2 b2 sc2 cl2 pm2 c2 ct2), (c2, oc2), (as_, instObj 449 ds), (ds, dictOf es ns), (ap, instObj 282 dP), (dP, dictOf (putL "answers" (PyData.keyHash w.params "answers") (.str "answers" q1) (.ref an) eP) nP2), (aw, instObj 167 dw), (dw, dictOf (putL "wants_more" (PyData.keyHash w.params "wants_more") (.str "wants_more" q4) (.bool false) (putL "deadline" (PyData.keyHash w.params "deadline") (.str "deadline" q7) (.int (now + 3 * wait) u7) (putL "challenges" (PyData.keyHash w.params "challenges") (.str "challenges" q6) (.ref am) (putL "state" (PyData.keyHash w.params "state") (.str "state" q5) (.str (Str.ofString "trying") q0) ew)))) nw2), (am, listOf #[.bytes bw u4] n4), (an, listOf #[] n2), (at_, { cls := .type "tuple", data := .seq #[.str (Str.ofString "path_challenge") u5, .bytes bw u6] }), (al, listOf #[.ref at_] n3), (zz, oz)] : List (Addr × Obj)), ∀ q ∈ rest, x.1 ≠ q.1) → @LT.lt Nat _ aw al ∧ @LT.lt Nat _ zz al ∧ @LT.lt Nat _ al an ∧ @LT.lt Nat _ an am ∧ @LT.lt Nat _ am at_ → Fr h₀ L h' m → News h₀ L h' [(ac, instObj 449 dc), (dc, dictOf (putL "again_at" (PyData.keyHash w.params "again_at") (.str "again_at" q3) (.int (now + wait) u2) (putL "challenged" (PyData.keyHash w.params "challenged") (.str "challenged" q2) (.int (n + 1) u1) ec)) nc2), (fpw, kla_obj ln1 qn1 pa1 b1 sc1 cl1 pm1 c1 ct1), (c1, oc1), (acw, ocw), (fch, kla_obj ln2 qn2 pa2 b2 sc2 cl2 pm2 c2 ct2), (c2, oc2), (as_, instObj 449 ds), (ds, dictOf es ns), (ap, instObj 282 dP), (dP, dictOf (putL "answers" (PyData.keyHash w.params "answers") (.str "answers" q1) (.ref an) eP) nP2), (aw, instObj 167 dw), (dw, dictOf (putL "wants_more" (PyData.keyHash w.params "wants_more") (.str "wants_more" q4) (.bool false) (putL "deadline" (PyData.keyHash w.params "deadline") (.str "deadline" q7) (.int (now + 3 * wait) u7) (putL "challenges" (PyData.keyHash w.params "challenges") (.str "challenges" q6) (.ref am) (putL "state" (PyData.keyHash w.params "state") (.str "state" q5) (.str (Str.ofString "trying") q0) ew)))) nw2), (am, listOf #[.bytes bw u4] n4), (an, listOf #[] n2), (at_, { cls := .type "tuple", data := .seq #[.str (Str.ofString "path_challenge") u5, .bytes bw u6] }), (al, listOf #[.ref at_] n3), (zz, oz)] → News h₀ L h' rest → Q (.ref al) { s with heap := h', toks := tk' }) :
    wpAny (model PySem.Challenge.rw_pf0276_01.row.toRowW.prog w) (ktrTop dp un gd cn cs L a ccd cl outer) (call (.ref 26) [.ref ac, .int now tnow]) Q E s := by
  revert X; k_fill; intro X
  obtain ⟨Pq, hPq⟩ : ∃ Pq : Addr → Value → List (Addr × Obj) → Prop, ∀ L' v news, Pq L' v news ↔ (∃ q1 : Tok, ∃ q2 : Tok, ∃ q3 : Tok, ∃ q4 : Tok, ∃ q5 : Tok, ∃ q6 : Tok, ∃ q7 : Tok, ∃ u1 : Tok, ∃ u2 : Tok, ∃ u4 : Tok, ∃ u5 : Tok, ∃ u6 : Tok, ∃ an : Addr, ∃ al : Addr, ∃ at_ : Addr, ∃ nP2 : Nat, ∃ nc2 : Nat, ∃ nw2 : Nat, ∃ n2 : Nat, ∃ n3 : Nat, ∃ n4 : Nat, ∃ am : Addr, ∃ q0 : Tok, ∃ u7 : Tok, v = .ref al ∧ news = [(ac, instObj 449 dc), (dc, dictOf (putL "again_at" (PyData.keyHash w.params "again_at") (.str "again_at" q3) (.int (now + wait) u2) (putL "challenged" (PyData.keyHash w.params "challenged") (.str "challenged" q2) (.int (n + 1) u1) ec)) nc2), (fpw, kla_obj ln1 qn1 pa1 b1 sc1 cl1 pm1 c1 ct1), (c1, oc1), (acw, ocw), (fch, kla_obj ln2 qn2 pa2 b2 sc2 cl2 pm2 c2 ct2), (c2, oc2), (as_, instObj 449 ds), (ds, dictOf es ns), (ap, instObj 282 dP), (dP, dictOf (putL "answers" (PyData.keyHash w.params "answers") (.str "answers" q1) (.ref an) eP) nP2), (aw, instObj 167 dw), (dw, dictOf (putL "wants_more" (PyData.keyHash w.params "wants_more") (.str "wants_more" q4) (.bool false) (putL "deadline" (PyData.keyHash w.params "deadline") (.str "deadline" q7) (.int (now + 3 * wait) u7) (putL "challenges" (PyData.keyHash w.params "challenges") (.str "challenges" q6) (.ref am) (putL "state" (PyData.keyHash w.params "state") (.str "state" q5) (.str (Str.ofString "trying") q0) ew)))) nw2), (am, listOf #[.bytes bw u4] n4), (an, listOf #[] n2), (at_, { cls := .type "tuple", data := .seq #[.str (Str.ofString "path_challenge") u5, .bytes bw u6] }), (al, listOf #[.ref at_] n3), (zz, oz)] ∧ @LT.lt Nat _ aw al ∧ @LT.lt Nat _ zz al ∧ @LT.lt Nat _ al an ∧ @LT.lt Nat _ an am ∧ @LT.lt Nat _ am at_) := ⟨fun L' v news => ∃ q1 : Tok, ∃ q2 : Tok, ∃ q3 : Tok, ∃ q4 : Tok, ∃ q5 : Tok, ∃ q6 : Tok, ∃ q7 : Tok, ∃ u1 : Tok, ∃ u2 : Tok, ∃ u4 : Tok, ∃ u5 : Tok, ∃ u6 : Tok, ∃ an : Addr, ∃ al : Addr, ∃ at_ : Addr, ∃ nP2 : Nat, ∃ nc2 : Nat, ∃ nw2 : Nat, ∃ n2 : Nat, ∃ n3 : Nat, ∃ n4 : Nat, ∃ am : Addr, ∃ q0 : Tok, ∃ u7 : Tok, v = .ref al ∧ news = [(ac, instObj 449 dc), (dc, dictOf (putL "again_at" (PyData.keyHash w.params "again_at") (.str "again_at" q3) (.int (now + wait) u2) (putL "challenged" (PyData.keyHash w.params "challenged") (.str "challenged" q2) (.int (n + 1) u1) ec)) nc2), (fpw, kla_obj ln1 qn1 pa1 b1 sc1 cl1 pm1 c1 ct1), (c1, oc1), (acw, ocw), (fch, kla_obj ln2 qn2 pa2 b2 sc2 cl2 pm2 c2 ct2), (c2, oc2), (as_, instObj 449 ds), (ds, dictOf es ns), (ap, instObj 282 dP), (dP, dictOf (putL "answers" (PyData.keyHash w.params "answers") (.str "answers" q1) (.ref an) eP) nP2), (aw, instObj 167 dw), (dw, dictOf (putL "wants_more" (PyData.keyHash w.params "wants_more") (.str "wants_more" q4) (.bool false) (putL "deadline" (PyData.keyHash w.params "deadline") (.str "deadline" q7) (.int (now + 3 * wait) u7) (putL "challenges" (PyData.keyHash w.params "challenges") (.str "challenges" q6) (.ref am) (putL "state" (PyData.keyHash w.params "state") (.str "state" q5) (.str (Str.ofString "trying") q0) ew)))) nw2), (am, listOf #[.bytes bw u4] n4), (an, listOf #[] n2), (at_, { cls := .type "tuple", data := .seq #[.str (Str.ofString "path_challenge") u5, .bytes bw u6] }), (al, listOf #[.ref at_] n3), (zz, oz)] ∧ @LT.lt Nat _ aw al ∧ @LT.lt Nat _ zz al ∧ @LT.lt Nat _ al an ∧ @LT.lt Nat _ an am ∧ @LT.lt Nat _ am at_, fun _ _ _ => Iff.rfl⟩
  k_dflt (refine' enter_frameC (K := hd.heap_1 w.params) [("conn", .ref ac), ("now", .int now tnow)] (Pq) B F X T N₁ N₂ apart rfl rfl hk ?k6 ?k7 ?k8 ?k9 ?kB ?kD ?h ?c2 ?c3 ?c4 ?ret; (case k6 => k_is); (case k7 => k_is); (case k8 => ktr_room); (case k9 => exact BindsTo.of_eq rfl); (case kD => decide); (case kB => exact rfl); (case c2 => exact rfl); (case c3 => exact rfl); (case c4 => exact rfl))
  case ret =>
    rintro L' v news' h' tk' - - hl2 hpq F' N' R'
    obtain ⟨q1, q2, q3, q4, q5, q6, q7, u1, u2, u4, u5, u6, an, al, at_, nP2, nc2, nw2, n2, n3, n4, am, q0, u7, rfl, rfl, hfacts⟩ := (hPq _ _ _).mp hpq
    exact ret q1 q2 q3 q4 q5 q6 q7 u1 u2 u4 u5 u6 an al at_ nP2 nc2 nw2 n2 n3 n4 am q0 u7 h' tk' hl2 hfacts F' N' R'
  intro g L' h₁ tk cells F N Y B X T l1; dsimp only [cellsFrom, bindL, bindC] at F Y; k_cells Y; (try simp only [List.cons_append, List.nil_append] at N)
  clear ret N₁ N₂ apart
  k_lt l1
  w_top off
  k_with_none
  (k_with "setAttr ref" => (k_here; k_dflt (refine' set_dict ?k1 ?k2 ?k3 ?k4 ?k5 ?k6 ?k7 ?k8 ?k9 ?k10 ?k11 ?k12 ?k13 ?_; (case k1 | k2 | k3 => k_asm); (case k4 => k_inst); (case k5 => exact rfl); (case k6 | k7 | k8 | k9 => k_is); (case k10 => exact getL_some _ _ (AbsD.plain (by ktr_rel))); (case k11 => exact put_abs (by ktr_rel)); (case k12 => k_upd); (case k13 => exact le_abs (by ktr_rel) (by omega)); k_whole; intro h'_w F'_w N'_w; (try k_sweep))))
  (k_with "compareOp In" => (k_here; (with_reducible show wpAny _ _ (compareOp CmpOp.In (Value.bytes _ _) (Value.ref _)) _ _ _); k_dflt (first
      | (refine' in_miss ?N ?m ?v ?b ?_; (case N => k_asm); (case m => k_mem); (case v => first | assumption | exact BAre.nil); (case b => first | assumption | exact List.not_mem_nil); k_whole)
      | (refine' in_hit ?N ?m ?v ?b ?_; (case N => k_asm); (case m => k_mem); (case v | b => assumption); k_whole))))
  (k_with "compareOp In str ref" => (k_here; (with_reducible show wpAny _ _ (compareOp CmpOp.In (Value.str _ _) (Value.ref _)) _ _ _); k_dflt (refine' in_K_strs ?F ?X ?l ?i ?b ?_; (case F | X => k_asm); (case l => k_is); (case i => kde_strs); (case b => exact rfl); k_whole)))
  (k_with "call ref" => (k_here; k_dflt (refine' CallsTo.use ?c ?B ?F ?X ?T ?kA ?kF ?k ?kh ?N ?s ?d ?u ?_; (case c => solve_by_elim only [hPr, hCh]); (case kA | kF => exact rfl); (case B | F | X | T => k_asm); (case k | kh => exact rfl); (case N => k_asm); (case s => k_subL); (case d => ktr_room); (case u => ktr_units); k_whole; intro t'_w h'_w tk'_w F'_w N'_w; (try k_sweep))))
  (k_with "call builtin:list.append" => (k_here; (with_reducible show wpAny _ _ (call (Value.builtin _) [Value.ref _, Value.bytes _ _]) _ _ _); k_dflt (refine' append_K ?k1 ?k2 ?k3 ?_ ?z; (case k1 | k2 => k_asm); (case k3 => k_upd); (case z => first | size_fits | (simp only [List.size_toArray]; refine Nat.le_trans (by assumption) ?_; decide) | (simp only [List.size_toArray]; refine Nat.lt_of_le_of_lt (by assumption) ?_; decide)); k_whole); intro h'_w F'_w N'_w; (try k_sweep)))
  (k_with "exec Assign cons ListComp" => (k_here; k_dflt (refine empty_assign (F₀ := by k_asm) (by rfl) (by with_unfolding_all rfl) (by with_unfolding_all rfl) (by decide) (by rfl) (by decide) (by rfl) (by rfl) ?_)))
  (k_with "eval ListComp" => (k_here; k_dflt (refine empty_eval (F₀ := by k_asm) (by with_unfolding_all rfl) (by decide) (by rfl) (by decide) ?_)))
  (k_with "EmptySrc" => (k_here; k_dflt (refine' EmptySrc.intro ?a ?b ?c ?d ?_; (case a => exact rfl); (case b | c => k_asm); (case d => k_mem)); (first | unfold FinA0 | unfold FinE0); intro D'_w h'_w tk'_w F'_w N'_w l1_w; k_lt l1_w; (try dsimp only); (try k_sweep)))
  repeat' (first | (k_unfold; (try dsimp only)) | (k_end; wrow_close) | (walk1; (all_goals (try dsimp only))) | (dsimp only; walk1) | (leave1; walk_say "STEP leave1"; try dsimp only) | fail "no step")
  all_goals (exact End1.intro _ (by assumption) (by assumption) (by k_subL) ((hPq _ _ _).mpr ⟨_, _, _, _, _, _, _, _, _, _, _, _, _, _, _, _, _, _, _, _, _, _, _, _, rfl, rfl, by omega⟩))
end
set_option maxHeartbeats 1000000 in
theorem op_next_tried {w : World} {p : Program} {loose : List Str} {mean : ExcName → Option Value} {mg mb : Str → Option Value} {dp un : Nat} {gd : Option (List Code)} {cn : Str} {cs : Scope} {a : Addr} {ccd : Value} {cl : List (Str × Addr)} {outer : List Env} {A₀ : Around} {base h₀ : Heap} {L : Addr} {m : Str → Option Value} {s : Shared} {Q E : Value → Shared → Prop} {rest : List (Addr × Obj)} {x : Fx} {c : Ch} {n : Nat} {wait : Int} {b : Bool}
    (B : Below A₀ base outer h₀) (F : Fr h₀ L s.heap m) (X : (hd.heap_1 w.params).In h₀) (T : Top p loose mean mg mb h₀) (hk : cs.kind = .function)
    (N₁ : News h₀ L s.heap (CL x c)) (N₂ : News h₀ L s.heap rest) (apart : ∀ q ∈ rest, q.1 ∉ (CL x c).map (·.1))
    (cf : CF w wait x c n) (ph : PhF wait x c n (.tried b))  (hdp : dp + 10 < recursionLimit) (hun : un + 300 < cLine)
    (ret : ∀ (q7 : Tok) (h1 : Heap) (tk1 : Nat), Fr h₀ L h1 m → News h₀ L h1 (CL x c) → News h₀ L h1 rest → Q (.int (3 * wait) q7) { s with heap := h1, toks := tk1 }) :
    wpAny (model PySem.Challenge.rw_pf0276_01.row.toRowW.prog w) (ktrTop dp un gd cn cs L a ccd cl outer) (call (.ref 274) [.ref x.ap]) Q E s := by
  have nd : ((CL x c).map (·.1)).Nodup := cl_nd cf
  have cfn := cf.hn
  obtain ⟨tch, hchg⟩ := cf.challenged
  obtain ⟨th, hadr⟩ := cf.haddress
  obtain ⟨thS, hst⟩ := cf.hstate
  obtain ⟨tw, wadr⟩ := cf.waddress
  obtain ⟨⟨ts, p1⟩, p2, ⟨td, p3⟩, p4, p5, p6, p7⟩ := ph
  have S1 : SubL ([(x.ap, instObj 282 x.dP), (x.dP, dictOf c.eP c.nP), (x.ak, listOf #[.ref x.ah, .ref x.aw] x.nk), (x.ah, instObj 167 x.dh), (x.dh, dictOf x.eh x.nh), (x.ahc, listOf #[] x.nhc), (x.aw, instObj 167 x.dw), (x.dw, dictOf c.ew c.nw), (c.awc, listOf c.vs.toArray c.nwc)] : List (Addr × Obj)) (CL x c) := ⟨.tail _ (.tail _ (.tail _ (.tail _ (.tail _ (.tail _ (.tail _ (.tail _ (.tail _ (.head _))))))))), .tail _ (.tail _ (.tail _ (.tail _ (.tail _ (.tail _ (.tail _ (.tail _ (.tail _ (.tail _ (.head _)))))))))), .tail _ (.tail _ (.tail _ (.tail _ (.tail _ (.tail _ (.tail _ (.tail _ (.tail _ (.tail _ (.tail _ (.head _))))))))))), .tail _ (.tail _ (.tail _ (.tail _ (.tail _ (.tail _ (.tail _ (.tail _ (.tail _ (.tail _ (.tail _ (.tail _ (.head _)))))))))))), .tail _ (.tail _ (.tail _ (.tail _ (.tail _ (.tail _ (.tail _ (.tail _ (.tail _ (.tail _ (.tail _ (.tail _ (.tail _ (.head _))))))))))))), .tail _ (.tail _ (.tail _ (.tail _ (.tail _ (.tail _ (.tail _ (.tail _ (.tail _ (.tail _ (.tail _ (.tail _ (.tail _ (.tail _ (.head _)))))))))))))), .tail _ (.tail _ (.tail _ (.tail _ (.tail _ (.tail _ (.tail _ (.tail _ (.tail _ (.tail _ (.tail _ (.tail _ (.tail _ (.tail _ (.tail _ (.head _))))))))))))))), .tail _ (.tail _ (.tail _ (.tail _ (.tail _ (.tail _ (.tail _ (.tail _ (.tail _ (.tail _ (.tail _ (.tail _ (.tail _ (.tail _ (.tail _ (.tail _ (.head _)))))))))))))))), .tail _ (.tail _ (.tail _ (.tail _ (.tail _ (.tail _ (.tail _ (.tail _ (.tail _ (.tail _ (.tail _ (.tail _ (.tail _ (.tail _ (.tail _ (.tail _ (.tail _ (.head _))))))))))))))))), trivial⟩
  have P : Part ((CL x c) ++ rest) ([(x.ap, instObj 282 x.dP), (x.dP, dictOf c.eP c.nP), (x.ak, listOf #[.ref x.ah, .ref x.aw] x.nk), (x.ah, instObj 167 x.dh), (x.dh, dictOf x.eh x.nh), (x.ahc, listOf #[] x.nhc), (x.aw, instObj 167 x.dw), (x.dw, dictOf c.ew c.nw), (c.awc, listOf c.vs.toArray c.nwc)] : List (Addr × Obj)) (([(x.ac, instObj 449 x.dc), (x.dc, dictOf c.ec c.nc), (x.fpw, kla_obj x.ln1 x.qn1 x.pa1 x.b1 x.sc1 x.cl1 x.pm1 x.c1 x.ct1), (x.c1, x.oc1), (x.acw, x.ocw), (x.fch, kla_obj x.ln2 x.qn2 x.pa2 x.b2 x.sc2 x.cl2 x.pm2 x.c2 x.ct2), (x.c2, x.oc2), (x.as_, instObj 449 x.ds), (x.ds, dictOf x.es x.ns), (c.aa, listOf #[] c.na), (x.ao, listOf #[] x.no), (x.pt, tabObj x.ps)] : List (Addr × Obj)) ++ rest) := Part.mask [false, false, false, false, false, false, false, false, false, true, true, true, true, true, true, true, true, true, false, false, false] nd apart (SubL.mem (l := [(x.ap, instObj 282 x.dP), (x.dP, dictOf c.eP c.nP), (x.ak, listOf #[.ref x.ah, .ref x.aw] x.nk), (x.ah, instObj 167 x.dh), (x.dh, dictOf x.eh x.nh), (x.ahc, listOf #[] x.nhc), (x.aw, instObj 167 x.dw), (x.dw, dictOf c.ew c.nw), (c.awc, listOf c.vs.toArray c.nwc)]) ⟨.head _, .tail _ (.head _), .tail _ (.tail _ (.head _)), .tail _ (.tail _ (.tail _ (.head _))), .tail _ (.tail _ (.tail _ (.tail _ (.head _)))), .tail _ (.tail _ (.tail _ (.tail _ (.tail _ (.head _))))), .tail _ (.tail _ (.tail _ (.tail _ (.tail _ (.tail _ (.head _)))))), .tail _ (.tail _ (.tail _ (.tail _ (.tail _ (.tail _ (.tail _ (.head _))))))), .tail _ (.tail _ (.tail _ (.tail _ (.tail _ (.tail _ (.tail _ (.tail _ (.head _)))))))), trivial⟩) (SubL.mem (l := [(x.ac, instObj 449 x.dc), (x.dc, dictOf c.ec c.nc), (x.fpw, kla_obj x.ln1 x.qn1 x.pa1 x.b1 x.sc1 x.cl1 x.pm1 x.c1 x.ct1), (x.c1, x.oc1), (x.acw, x.ocw), (x.fch, kla_obj x.ln2 x.qn2 x.pa2 x.b2 x.sc2 x.cl2 x.pm2 x.c2 x.ct2), (x.c2, x.oc2), (x.as_, instObj 449 x.ds), (x.ds, dictOf x.es x.ns), (c.aa, listOf #[] c.na), (x.ao, listOf #[] x.no), (x.pt, tabObj x.ps)]) ⟨.head _, .tail _ (.head _), .tail _ (.tail _ (.head _)), .tail _ (.tail _ (.tail _ (.head _))), .tail _ (.tail _ (.tail _ (.tail _ (.head _)))), .tail _ (.tail _ (.tail _ (.tail _ (.tail _ (.head _))))), .tail _ (.tail _ (.tail _ (.tail _ (.tail _ (.tail _ (.head _)))))), .tail _ (.tail _ (.tail _ (.tail _ (.tail _ (.tail _ (.tail _ (.head _))))))), .tail _ (.tail _ (.tail _ (.tail _ (.tail _ (.tail _ (.tail _ (.tail _ (.head _)))))))), .tail _ (.tail _ (.tail _ (.tail _ (.tail _ (.tail _ (.tail _ (.tail _ (.tail _ (.head _))))))))), .tail _ (.tail _ (.tail _ (.tail _ (.tail _ (.tail _ (.tail _ (.tail _ (.tail _ (.tail _ (.head _)))))))))), .tail _ (.tail _ (.tail _ (.tail _ (.tail _ (.tail _ (.tail _ (.tail _ (.tail _ (.tail _ (.tail _ (.head _))))))))))), trivial⟩)
  refine' next_tried (ap := x.ap) (dP := x.dP) (ak := x.ak) (ah := x.ah) (dh := x.dh) (ahc := x.ahc) (aw := x.aw) (dw := x.dw) (awc := c.awc) (eP := c.eP) (eh := x.eh) (ew := c.ew) (nP := c.nP) (nk := x.nk) (nh := x.nh) (nhc := x.nhc) (nw := c.nw) (nwc := c.nwc) (vs := c.vs) (bs := c.bs) B F X T hk (newsSub N₁ S1) (P.news (newsApp N₁ N₂)) P.apart (cf.aP) (cf.aH) (cf.aW) (cf.hv) (cf.known) (cf.hchal) (cf.wchal) (cf.hdead) (p3) (by omega) (by omega) ?rt
  all_goals (try first | exact Value.none | exact (0 : Nat) | exact (0 : Int) | exact (#[] : Array UInt8))
  rintro q7 h1 tk1 hl2 F1 N1 R1
  exact ret q7 h1 tk1 F1 (newsSub (newsApp N1 R1) ⟨.tail _ (.tail _ (.tail _ (.tail _ (.tail _ (.tail _ (.tail _ (.tail _ (.tail _ (.head _))))))))), .tail _ (.tail _ (.tail _ (.tail _ (.tail _ (.tail _ (.tail _ (.tail _ (.tail _ (.tail _ (.head _)))))))))), .tail _ (.tail _ (.tail _ (.tail _ (.tail _ (.tail _ (.tail _ (.tail _ (.tail _ (.tail _ (.tail _ (.head _))))))))))), .tail _ (.tail _ (.tail _ (.tail _ (.tail _ (.tail _ (.tail _ (.tail _ (.tail _ (.tail _ (.tail _ (.tail _ (.head _)))))))))))), .tail _ (.tail _ (.tail _ (.tail _ (.tail _ (.tail _ (.tail _ (.tail _ (.tail _ (.tail _ (.tail _ (.tail _ (.tail _ (.head _))))))))))))), .tail _ (.tail _ (.tail _ (.tail _ (.tail _ (.tail _ (.tail _ (.tail _ (.tail _ (.tail _ (.tail _ (.tail _ (.tail _ (.tail _ (.head _)))))))))))))), .tail _ (.tail _ (.tail _ (.tail _ (.tail _ (.tail _ (.tail _ (.tail _ (.tail _ (.tail _ (.tail _ (.tail _ (.tail _ (.tail _ (.tail _ (.head _))))))))))))))), .tail _ (.tail _ (.tail _ (.tail _ (.tail _ (.tail _ (.tail _ (.tail _ (.tail _ (.tail _ (.tail _ (.tail _ (.tail _ (.tail _ (.tail _ (.tail _ (.head _)))))))))))))))), .tail _ (.tail _ (.tail _ (.tail _ (.tail _ (.tail _ (.tail _ (.tail _ (.tail _ (.tail _ (.tail _ (.tail _ (.tail _ (.tail _ (.tail _ (.tail _ (.tail _ (.head _))))))))))))))))), .head _, .tail _ (.head _), .tail _ (.tail _ (.head _)), .tail _ (.tail _ (.tail _ (.head _))), .tail _ (.tail _ (.tail _ (.tail _ (.head _)))), .tail _ (.tail _ (.tail _ (.tail _ (.tail _ (.head _))))), .tail _ (.tail _ (.tail _ (.tail _ (.tail _ (.tail _ (.head _)))))), .tail _ (.tail _ (.tail _ (.tail _ (.tail _ (.tail _ (.tail _ (.head _))))))), .tail _ (.tail _ (.tail _ (.tail _ (.tail _ (.tail _ (.tail _ (.tail _ (.head _)))))))), .tail _ (.tail _ (.tail _ (.tail _ (.tail _ (.tail _ (.tail _ (.tail _ (.tail _ (.tail _ (.tail _ (.tail _ (.tail _ (.tail _ (.tail _ (.tail _ (.tail _ (.tail _ (.head _)))))))))))))))))), .tail _ (.tail _ (.tail _ (.tail _ (.tail _ (.tail _ (.tail _ (.tail _ (.tail _ (.tail _ (.tail _ (.tail _ (.tail _ (.tail _ (.tail _ (.tail _ (.tail _ (.tail _ (.tail _ (.head _))))))))))))))))))), .tail _ (.tail _ (.tail _ (.tail _ (.tail _ (.tail _ (.tail _ (.tail _ (.tail _ (.tail _ (.tail _ (.tail _ (.tail _ (.tail _ (.tail _ (.tail _ (.tail _ (.tail _ (.tail _ (.tail _ (.head _)))))))))))))))))))), trivial⟩) (fun q hq => R1 q (List.mem_append_right _ hq))
set_option maxHeartbeats 1000000 in
theorem op_next_none {w : World} {p : Program} {loose : List Str} {mean : ExcName → Option Value} {mg mb : Str → Option Value} {dp un : Nat} {gd : Option (List Code)} {cn : Str} {cs : Scope} {a : Addr} {ccd : Value} {cl : List (Str × Addr)} {outer : List Env} {A₀ : Around} {base h₀ : Heap} {L : Addr} {m : Str → Option Value} {s : Shared} {Q E : Value → Shared → Prop} {rest : List (Addr × Obj)} {x : Fx} {c : Ch} {n : Nat} {wait : Int} 
    (B : Below A₀ base outer h₀) (F : Fr h₀ L s.heap m) (X : (hd.heap_1 w.params).In h₀) (T : Top p loose mean mg mb h₀) (hk : cs.kind = .function)
    (N₁ : News h₀ L s.heap (CL x c)) (N₂ : News h₀ L s.heap rest) (apart : ∀ q ∈ rest, q.1 ∉ (CL x c).map (·.1))
    (cf : CF w wait x c n) (hdl : getL "deadline" c.ew = some (some .none)) (hdp : dp + 10 < recursionLimit) (hun : un + 300 < cLine)
    (ret : ∀ (h1 : Heap) (tk1 : Nat), Fr h₀ L h1 m → News h₀ L h1 (CL x c) → News h₀ L h1 rest → Q (.none) { s with heap := h1, toks := tk1 }) :
    wpAny (model PySem.Challenge.rw_pf0276_01.row.toRowW.prog w) (ktrTop dp un gd cn cs L a ccd cl outer) (call (.ref 274) [.ref x.ap]) Q E s := by
  have nd : ((CL x c).map (·.1)).Nodup := cl_nd cf
  have cfn := cf.hn
  obtain ⟨tch, hchg⟩ := cf.challenged
  obtain ⟨th, hadr⟩ := cf.haddress
  obtain ⟨thS, hst⟩ := cf.hstate
  obtain ⟨tw, wadr⟩ := cf.waddress
  have S1 : SubL ([(x.ap, instObj 282 x.dP), (x.dP, dictOf c.eP c.nP), (x.ak, listOf #[.ref x.ah, .ref x.aw] x.nk), (x.ah, instObj 167 x.dh), (x.dh, dictOf x.eh x.nh), (x.ahc, listOf #[] x.nhc), (x.aw, instObj 167 x.dw), (x.dw, dictOf c.ew c.nw), (c.awc, listOf c.vs.toArray c.nwc)] : List (Addr × Obj)) (CL x c) := ⟨.tail _ (.tail _ (.tail _ (.tail _ (.tail _ (.tail _ (.tail _ (.tail _ (.tail _ (.head _))))))))), .tail _ (.tail _ (.tail _ (.tail _ (.tail _ (.tail _ (.tail _ (.tail _ (.tail _ (.tail _ (.head _)))))))))), .tail _ (.tail _ (.tail _ (.tail _ (.tail _ (.tail _ (.tail _ (.tail _ (.tail _ (.tail _ (.tail _ (.head _))))))))))), .tail _ (.tail _ (.tail _ (.tail _ (.tail _ (.tail _ (.tail _ (.tail _ (.tail _ (.tail _ (.tail _ (.tail _ (.head _)))))))))))), .tail _ (.tail _ (.tail _ (.tail _ (.tail _ (.tail _ (.tail _ (.tail _ (.tail _ (.tail _ (.tail _ (.tail _ (.tail _ (.head _))))))))))))), .tail _ (.tail _ (.tail _ (.tail _ (.tail _ (.tail _ (.tail _ (.tail _ (.tail _ (.tail _ (.tail _ (.tail _ (.tail _ (.tail _ (.head _)))))))))))))), .tail _ (.tail _ (.tail _ (.tail _ (.tail _ (.tail _ (.tail _ (.tail _ (.tail _ (.tail _ (.tail _ (.tail _ (.tail _ (.tail _ (.tail _ (.head _))))))))))))))), .tail _ (.tail _ (.tail _ (.tail _ (.tail _ (.tail _ (.tail _ (.tail _ (.tail _ (.tail _ (.tail _ (.tail _ (.tail _ (.tail _ (.tail _ (.tail _ (.head _)))))))))))))))), .tail _ (.tail _ (.tail _ (.tail _ (.tail _ (.tail _ (.tail _ (.tail _ (.tail _ (.tail _ (.tail _ (.tail _ (.tail _ (.tail _ (.tail _ (.tail _ (.tail _ (.head _))))))))))))))))), trivial⟩
  have P : Part ((CL x c) ++ rest) ([(x.ap, instObj 282 x.dP), (x.dP, dictOf c.eP c.nP), (x.ak, listOf #[.ref x.ah, .ref x.aw] x.nk), (x.ah, instObj 167 x.dh), (x.dh, dictOf x.eh x.nh), (x.ahc, listOf #[] x.nhc), (x.aw, instObj 167 x.dw), (x.dw, dictOf c.ew c.nw), (c.awc, listOf c.vs.toArray c.nwc)] : List (Addr × Obj)) (([(x.ac, instObj 449 x.dc), (x.dc, dictOf c.ec c.nc), (x.fpw, kla_obj x.ln1 x.qn1 x.pa1 x.b1 x.sc1 x.cl1 x.pm1 x.c1 x.ct1), (x.c1, x.oc1), (x.acw, x.ocw), (x.fch, kla_obj x.ln2 x.qn2 x.pa2 x.b2 x.sc2 x.cl2 x.pm2 x.c2 x.ct2), (x.c2, x.oc2), (x.as_, instObj 449 x.ds), (x.ds, dictOf x.es x.ns), (c.aa, listOf #[] c.na), (x.ao, listOf #[] x.no), (x.pt, tabObj x.ps)] : List (Addr × Obj)) ++ rest) := Part.mask [false, false, false, false, false, false, false, false, false, true, true, true, true, true, true, true, true, true, false, false, false] nd apart (SubL.mem (l := [(x.ap, instObj 282 x.dP), (x.dP, dictOf c.eP c.nP), (x.ak, listOf #[.ref x.ah, .ref x.aw] x.nk), (x.ah, instObj 167 x.dh), (x.dh, dictOf x.eh x.nh), (x.ahc, listOf #[] x.nhc), (x.aw, instObj 167 x.dw), (x.dw, dictOf c.ew c.nw), (c.awc, listOf c.vs.toArray c.nwc)]) ⟨.head _, .tail _ (.head _), .tail _ (.tail _ (.head _)), .tail _ (.tail _ (.tail _ (.head _))), .tail _ (.tail _ (.tail _ (.tail _ (.head _)))), .tail _ (.tail _ (.tail _ (.tail _ (.tail _ (.head _))))), .tail _ (.tail _ (.tail _ (.tail _ (.tail _ (.tail _ (.head _)))))), .tail _ (.tail _ (.tail _ (.tail _ (.tail _ (.tail _ (.tail _ (.head _))))))), .tail _ (.tail _ (.tail _ (.tail _ (.tail _ (.tail _ (.tail _ (.tail _ (.head _)))))))), trivial⟩) (SubL.mem (l := [(x.ac, instObj 449 x.dc), (x.dc, dictOf c.ec c.nc), (x.fpw, kla_obj x.ln1 x.qn1 x.pa1 x.b1 x.sc1 x.cl1 x.pm1 x.c1 x.ct1), (x.c1, x.oc1), (x.acw, x.ocw), (x.fch, kla_obj x.ln2 x.qn2 x.pa2 x.b2 x.sc2 x.cl2 x.pm2 x.c2 x.ct2), (x.c2, x.oc2), (x.as_, instObj 449 x.ds), (x.ds, dictOf x.es x.ns), (c.aa, listOf #[] c.na), (x.ao, listOf #[] x.no), (x.pt, tabObj x.ps)]) ⟨.head _, .tail _ (.head _), .tail _ (.tail _ (.head _)), .tail _ (.tail _ (.tail _ (.head _))), .tail _ (.tail _ (.tail _ (.tail _ (.head _)))), .tail _ (.tail _ (.tail _ (.tail _ (.tail _ (.head _))))), .tail _ (.tail _ (.tail _ (.tail _ (.tail _ (.tail _ (.head _)))))), .tail _ (.tail _ (.tail _ (.tail _ (.tail _ (.tail _ (.tail _ (.head _))))))), .tail _ (.tail _ (.tail _ (.tail _ (.tail _ (.tail _ (.tail _ (.tail _ (.head _)))))))), .tail _ (.tail _ (.tail _ (.tail _ (.tail _ (.tail _ (.tail _ (.tail _ (.tail _ (.head _))))))))), .tail _ (.tail _ (.tail _ (.tail _ (.tail _ (.tail _ (.tail _ (.tail _ (.tail _ (.tail _ (.head _)))))))))), .tail _ (.tail _ (.tail _ (.tail _ (.tail _ (.tail _ (.tail _ (.tail _ (.tail _ (.tail _ (.tail _ (.head _))))))))))), trivial⟩)
  refine' next_none (ap := x.ap) (dP := x.dP) (ak := x.ak) (ah := x.ah) (dh := x.dh) (ahc := x.ahc) (aw := x.aw) (dw := x.dw) (awc := c.awc) (eP := c.eP) (eh := x.eh) (ew := c.ew) (nP := c.nP) (nk := x.nk) (nh := x.nh) (nhc := x.nhc) (nw := c.nw) (nwc := c.nwc) (vs := c.vs) (bs := c.bs) B F X T hk (newsSub N₁ S1) (P.news (newsApp N₁ N₂)) P.apart (cf.aP) (cf.aH) (cf.aW) (cf.hv) (cf.known) (cf.hchal) (cf.wchal) (cf.hdead) (hdl) (by omega) (by omega) ?rt
  all_goals (try first | exact Value.none | exact (0 : Nat) | exact (0 : Int) | exact (#[] : Array UInt8))
  rintro  h1 tk1 hl2 F1 N1 R1
  exact ret  h1 tk1 F1 (newsSub (newsApp N1 R1) ⟨.tail _ (.tail _ (.tail _ (.tail _ (.tail _ (.tail _ (.tail _ (.tail _ (.tail _ (.head _))))))))), .tail _ (.tail _ (.tail _ (.tail _ (.tail _ (.tail _ (.tail _ (.tail _ (.tail _ (.tail _ (.head _)))))))))), .tail _ (.tail _ (.tail _ (.tail _ (.tail _ (.tail _ (.tail _ (.tail _ (.tail _ (.tail _ (.tail _ (.head _))))))))))), .tail _ (.tail _ (.tail _ (.tail _ (.tail _ (.tail _ (.tail _ (.tail _ (.tail _ (.tail _ (.tail _ (.tail _ (.head _)))))))))))), .tail _ (.tail _ (.tail _ (.tail _ (.tail _ (.tail _ (.tail _ (.tail _ (.tail _ (.tail _ (.tail _ (.tail _ (.tail _ (.head _))))))))))))), .tail _ (.tail _ (.tail _ (.tail _ (.tail _ (.tail _ (.tail _ (.tail _ (.tail _ (.tail _ (.tail _ (.tail _ (.tail _ (.tail _ (.head _)))))))))))))), .tail _ (.tail _ (.tail _ (.tail _ (.tail _ (.tail _ (.tail _ (.tail _ (.tail _ (.tail _ (.tail _ (.tail _ (.tail _ (.tail _ (.tail _ (.head _))))))))))))))), .tail _ (.tail _ (.tail _ (.tail _ (.tail _ (.tail _ (.tail _ (.tail _ (.tail _ (.tail _ (.tail _ (.tail _ (.tail _ (.tail _ (.tail _ (.tail _ (.head _)))))))))))))))), .tail _ (.tail _ (.tail _ (.tail _ (.tail _ (.tail _ (.tail _ (.tail _ (.tail _ (.tail _ (.tail _ (.tail _ (.tail _ (.tail _ (.tail _ (.tail _ (.tail _ (.head _))))))))))))))))), .head _, .tail _ (.head _), .tail _ (.tail _ (.head _)), .tail _ (.tail _ (.tail _ (.head _))), .tail _ (.tail _ (.tail _ (.tail _ (.head _)))), .tail _ (.tail _ (.tail _ (.tail _ (.tail _ (.head _))))), .tail _ (.tail _ (.tail _ (.tail _ (.tail _ (.tail _ (.head _)))))), .tail _ (.tail _ (.tail _ (.tail _ (.tail _ (.tail _ (.tail _ (.head _))))))), .tail _ (.tail _ (.tail _ (.tail _ (.tail _ (.tail _ (.tail _ (.tail _ (.head _)))))))), .tail _ (.tail _ (.tail _ (.tail _ (.tail _ (.tail _ (.tail _ (.tail _ (.tail _ (.tail _ (.tail _ (.tail _ (.tail _ (.tail _ (.tail _ (.tail _ (.tail _ (.tail _ (.head _)))))))))))))))))), .tail _ (.tail _ (.tail _ (.tail _ (.tail _ (.tail _ (.tail _ (.tail _ (.tail _ (.tail _ (.tail _ (.tail _ (.tail _ (.tail _ (.tail _ (.tail _ (.tail _ (.tail _ (.tail _ (.head _))))))))))))))))))), .tail _ (.tail _ (.tail _ (.tail _ (.tail _ (.tail _ (.tail _ (.tail _ (.tail _ (.tail _ (.tail _ (.tail _ (.tail _ (.tail _ (.tail _ (.tail _ (.tail _ (.tail _ (.tail _ (.tail _ (.head _)))))))))))))))))))), trivial⟩) (fun q hq => R1 q (List.mem_append_right _ hq))
set_option maxHeartbeats 1000000 in
theorem op_lost_miss {w : World} {p : Program} {loose : List Str} {mean : ExcName → Option Value} {mg mb : Str → Option Value} {dp un : Nat} {gd : Option (List Code)} {cn : Str} {cs : Scope} {a : Addr} {ccd : Value} {cl : List (Str × Addr)} {outer : List Env} {A₀ : Around} {base h₀ : Heap} {L : Addr} {m : Str → Option Value} {s : Shared} {Q E : Value → Shared → Prop} {rest : List (Addr × Obj)} {x : Fx} {c : Ch} {n : Nat} {wait : Int} {at_ : Addr} {t1 t2 t3 : Tok} {b : Array UInt8}
    (B : Below A₀ base outer h₀) (F : Fr h₀ L s.heap m) (X : (hd.heap_1 w.params).In h₀) (T : Top p loose mean mg mb h₀) (hk : cs.kind = .function)
    (N₁ : News h₀ L s.heap ((at_, { cls := .type "tuple", data := .seq #[.str (Str.ofString "path_challenge") t1, .bytes b t2] }) :: CL x c)) (N₂ : News h₀ L s.heap rest) (apart : ∀ q ∈ rest, q.1 ∉ ((at_, { cls := .type "tuple", data := .seq #[.str (Str.ofString "path_challenge") t1, .bytes b t2] }) :: CL x c).map (·.1))
    (cf : CF w wait x c n) (hat : ∀ y ∈ CL x c, y.1 ≠ at_) (hat2 : @LT.lt Nat _ c.awc at_) (hb : b ∉ c.bs) (hdp : dp + 10 < recursionLimit) (hun : un + 300 < cLine)
    (ret : ∀ (h1 : Heap) (tk1 : Nat), Fr h₀ L h1 m → News h₀ L h1 (CL x c) → News h₀ L h1 rest → Q (.none) { s with heap := h1, toks := tk1 }) :
    wpAny (model PySem.Challenge.rw_pf0276_01.row.toRowW.prog w) (ktrTop dp un gd cn cs L a ccd cl outer) (call (.ref 67) [.ref x.ac, .str (Str.ofString "application") t3, .ref at_]) Q E s := by
  have nd : (((at_, { cls := .type "tuple", data := .seq #[.str (Str.ofString "path_challenge") t1, .bytes b t2] }) :: CL x c).map (·.1)).Nodup := cons_nd (cl_nd cf) hat
  have cfn := cf.hn
  obtain ⟨tch, hchg⟩ := cf.challenged
  obtain ⟨th, hadr⟩ := cf.haddress
  obtain ⟨thS, hst⟩ := cf.hstate
  obtain ⟨tw, wadr⟩ := cf.waddress
  have S1 : SubL ([(x.ac, instObj 449 x.dc), (x.dc, dictOf c.ec c.nc), (at_, { cls := .type "tuple", data := .seq #[.str (Str.ofString "path_challenge") t1, .bytes b t2] }), (x.ap, instObj 282 x.dP), (x.dP, dictOf c.eP c.nP), (x.ak, listOf #[.ref x.ah, .ref x.aw] x.nk), (x.ah, instObj 167 x.dh), (x.dh, dictOf x.eh x.nh), (x.ahc, listOf #[] x.nhc), (x.aw, instObj 167 x.dw), (x.dw, dictOf c.ew c.nw), (c.awc, listOf c.vs.toArray c.nwc)] : List (Addr × Obj)) ((at_, { cls := .type "tuple", data := .seq #[.str (Str.ofString "path_challenge") t1, .bytes b t2] }) :: CL x c) := ⟨.tail _ (.head _), .tail _ (.tail _ (.head _)), .head _, .tail _ (.tail _ (.tail _ (.tail _ (.tail _ (.tail _ (.tail _ (.tail _ (.tail _ (.tail _ (.head _)))))))))), .tail _ (.tail _ (.tail _ (.tail _ (.tail _ (.tail _ (.tail _ (.tail _ (.tail _ (.tail _ (.tail _ (.head _))))))))))), .tail _ (.tail _ (.tail _ (.tail _ (.tail _ (.tail _ (.tail _ (.tail _ (.tail _ (.tail _ (.tail _ (.tail _ (.head _)))))))))))), .tail _ (.tail _ (.tail _ (.tail _ (.tail _ (.tail _ (.tail _ (.tail _ (.tail _ (.tail _ (.tail _ (.tail _ (.tail _ (.head _))))))))))))), .tail _ (.tail _ (.tail _ (.tail _ (.tail _ (.tail _ (.tail _ (.tail _ (.tail _ (.tail _ (.tail _ (.tail _ (.tail _ (.tail _ (.head _)))))))))))))), .tail _ (.tail _ (.tail _ (.tail _ (.tail _ (.tail _ (.tail _ (.tail _ (.tail _ (.tail _ (.tail _ (.tail _ (.tail _ (.tail _ (.tail _ (.head _))))))))))))))), .tail _ (.tail _ (.tail _ (.tail _ (.tail _ (.tail _ (.tail _ (.tail _ (.tail _ (.tail _ (.tail _ (.tail _ (.tail _ (.tail _ (.tail _ (.tail _ (.head _)))))))))))))))), .tail _ (.tail _ (.tail _ (.tail _ (.tail _ (.tail _ (.tail _ (.tail _ (.tail _ (.tail _ (.tail _ (.tail _ (.tail _ (.tail _ (.tail _ (.tail _ (.tail _ (.head _))))))))))))))))), .tail _ (.tail _ (.tail _ (.tail _ (.tail _ (.tail _ (.tail _ (.tail _ (.tail _ (.tail _ (.tail _ (.tail _ (.tail _ (.tail _ (.tail _ (.tail _ (.tail _ (.tail _ (.head _)))))))))))))))))), trivial⟩
  have P : Part (((at_, { cls := .type "tuple", data := .seq #[.str (Str.ofString "path_challenge") t1, .bytes b t2] }) :: CL x c) ++ rest) ([(x.ac, instObj 449 x.dc), (x.dc, dictOf c.ec c.nc), (at_, { cls := .type "tuple", data := .seq #[.str (Str.ofString "path_challenge") t1, .bytes b t2] }), (x.ap, instObj 282 x.dP), (x.dP, dictOf c.eP c.nP), (x.ak, listOf #[.ref x.ah, .ref x.aw] x.nk), (x.ah, instObj 167 x.dh), (x.dh, dictOf x.eh x.nh), (x.ahc, listOf #[] x.nhc), (x.aw, instObj 167 x.dw), (x.dw, dictOf c.ew c.nw), (c.awc, listOf c.vs.toArray c.nwc)] : List (Addr × Obj)) (([(x.fpw, kla_obj x.ln1 x.qn1 x.pa1 x.b1 x.sc1 x.cl1 x.pm1 x.c1 x.ct1), (x.c1, x.oc1), (x.acw, x.ocw), (x.fch, kla_obj x.ln2 x.qn2 x.pa2 x.b2 x.sc2 x.cl2 x.pm2 x.c2 x.ct2), (x.c2, x.oc2), (x.as_, instObj 449 x.ds), (x.ds, dictOf x.es x.ns), (c.aa, listOf #[] c.na), (x.ao, listOf #[] x.no), (x.pt, tabObj x.ps)] : List (Addr × Obj)) ++ rest) := Part.mask [true, true, true, false, false, false, false, false, false, false, true, true, true, true, true, true, true, true, true, false, false, false] nd apart (SubL.mem (l := [(x.ac, instObj 449 x.dc), (x.dc, dictOf c.ec c.nc), (at_, { cls := .type "tuple", data := .seq #[.str (Str.ofString "path_challenge") t1, .bytes b t2] }), (x.ap, instObj 282 x.dP), (x.dP, dictOf c.eP c.nP), (x.ak, listOf #[.ref x.ah, .ref x.aw] x.nk), (x.ah, instObj 167 x.dh), (x.dh, dictOf x.eh x.nh), (x.ahc, listOf #[] x.nhc), (x.aw, instObj 167 x.dw), (x.dw, dictOf c.ew c.nw), (c.awc, listOf c.vs.toArray c.nwc)]) ⟨.tail _ (.head _), .tail _ (.tail _ (.head _)), .head _, .tail _ (.tail _ (.tail _ (.head _))), .tail _ (.tail _ (.tail _ (.tail _ (.head _)))), .tail _ (.tail _ (.tail _ (.tail _ (.tail _ (.head _))))), .tail _ (.tail _ (.tail _ (.tail _ (.tail _ (.tail _ (.head _)))))), .tail _ (.tail _ (.tail _ (.tail _ (.tail _ (.tail _ (.tail _ (.head _))))))), .tail _ (.tail _ (.tail _ (.tail _ (.tail _ (.tail _ (.tail _ (.tail _ (.head _)))))))), .tail _ (.tail _ (.tail _ (.tail _ (.tail _ (.tail _ (.tail _ (.tail _ (.tail _ (.head _))))))))), .tail _ (.tail _ (.tail _ (.tail _ (.tail _ (.tail _ (.tail _ (.tail _ (.tail _ (.tail _ (.head _)))))))))), .tail _ (.tail _ (.tail _ (.tail _ (.tail _ (.tail _ (.tail _ (.tail _ (.tail _ (.tail _ (.tail _ (.head _))))))))))), trivial⟩) (SubL.mem (l := [(x.fpw, kla_obj x.ln1 x.qn1 x.pa1 x.b1 x.sc1 x.cl1 x.pm1 x.c1 x.ct1), (x.c1, x.oc1), (x.acw, x.ocw), (x.fch, kla_obj x.ln2 x.qn2 x.pa2 x.b2 x.sc2 x.cl2 x.pm2 x.c2 x.ct2), (x.c2, x.oc2), (x.as_, instObj 449 x.ds), (x.ds, dictOf x.es x.ns), (c.aa, listOf #[] c.na), (x.ao, listOf #[] x.no), (x.pt, tabObj x.ps)]) ⟨.head _, .tail _ (.head _), .tail _ (.tail _ (.head _)), .tail _ (.tail _ (.tail _ (.head _))), .tail _ (.tail _ (.tail _ (.tail _ (.head _)))), .tail _ (.tail _ (.tail _ (.tail _ (.tail _ (.head _))))), .tail _ (.tail _ (.tail _ (.tail _ (.tail _ (.tail _ (.head _)))))), .tail _ (.tail _ (.tail _ (.tail _ (.tail _ (.tail _ (.tail _ (.head _))))))), .tail _ (.tail _ (.tail _ (.tail _ (.tail _ (.tail _ (.tail _ (.tail _ (.head _)))))))), .tail _ (.tail _ (.tail _ (.tail _ (.tail _ (.tail _ (.tail _ (.tail _ (.tail _ (.head _))))))))), trivial⟩)
  refine' lost_miss (ap := x.ap) (dP := x.dP) (ak := x.ak) (ah := x.ah) (dh := x.dh) (ahc := x.ahc) (aw := x.aw) (dw := x.dw) (awc := c.awc) (eP := c.eP) (eh := x.eh) (ew := c.ew) (nP := c.nP) (nk := x.nk) (nh := x.nh) (nhc := x.nhc) (nw := c.nw) (nwc := c.nwc) (vs := c.vs) (bs := c.bs) (ac := x.ac) (dc := x.dc) (ec := c.ec) (nc := c.nc) B F X T hk (newsSub N₁ S1) (P.news (newsApp N₁ N₂)) P.apart (cf.aP) (cf.aH) (cf.aW) (cf.hv) (cf.known) (cf.hchal) (cf.wchal) (cf.aC.mono (by omega)) (cf.paths) (cf.mol) (hb) (by omega) (by omega) ?rt
  all_goals (try first | exact Value.none | exact (0 : Nat) | exact (0 : Int) | exact (#[] : Array UInt8))
  rintro  h1 tk1 hl2 F1 N1 R1
  exact ret  h1 tk1 F1 (newsSub (newsApp N1 R1) ⟨.head _, .tail _ (.head _), .tail _ (.tail _ (.tail _ (.tail _ (.tail _ (.tail _ (.tail _ (.tail _ (.tail _ (.tail _ (.tail _ (.head _))))))))))), .tail _ (.tail _ (.tail _ (.tail _ (.tail _ (.tail _ (.tail _ (.tail _ (.tail _ (.tail _ (.tail _ (.tail _ (.head _)))))))))))), .tail _ (.tail _ (.tail _ (.tail _ (.tail _ (.tail _ (.tail _ (.tail _ (.tail _ (.tail _ (.tail _ (.tail _ (.tail _ (.head _))))))))))))), .tail _ (.tail _ (.tail _ (.tail _ (.tail _ (.tail _ (.tail _ (.tail _ (.tail _ (.tail _ (.tail _ (.tail _ (.tail _ (.tail _ (.head _)))))))))))))), .tail _ (.tail _ (.tail _ (.tail _ (.tail _ (.tail _ (.tail _ (.tail _ (.tail _ (.tail _ (.tail _ (.tail _ (.tail _ (.tail _ (.tail _ (.head _))))))))))))))), .tail _ (.tail _ (.tail _ (.tail _ (.tail _ (.tail _ (.tail _ (.tail _ (.tail _ (.tail _ (.tail _ (.tail _ (.tail _ (.tail _ (.tail _ (.tail _ (.head _)))))))))))))))), .tail _ (.tail _ (.tail _ (.tail _ (.tail _ (.tail _ (.tail _ (.tail _ (.tail _ (.tail _ (.tail _ (.tail _ (.tail _ (.tail _ (.tail _ (.tail _ (.tail _ (.head _))))))))))))))))), .tail _ (.tail _ (.head _)), .tail _ (.tail _ (.tail _ (.head _))), .tail _ (.tail _ (.tail _ (.tail _ (.head _)))), .tail _ (.tail _ (.tail _ (.tail _ (.tail _ (.head _))))), .tail _ (.tail _ (.tail _ (.tail _ (.tail _ (.tail _ (.head _)))))), .tail _ (.tail _ (.tail _ (.tail _ (.tail _ (.tail _ (.tail _ (.head _))))))), .tail _ (.tail _ (.tail _ (.tail _ (.tail _ (.tail _ (.tail _ (.tail _ (.head _)))))))), .tail _ (.tail _ (.tail _ (.tail _ (.tail _ (.tail _ (.tail _ (.tail _ (.tail _ (.head _))))))))), .tail _ (.tail _ (.tail _ (.tail _ (.tail _ (.tail _ (.tail _ (.tail _ (.tail _ (.tail _ (.head _)))))))))), .tail _ (.tail _ (.tail _ (.tail _ (.tail _ (.tail _ (.tail _ (.tail _ (.tail _ (.tail _ (.tail _ (.tail _ (.tail _ (.tail _ (.tail _ (.tail _ (.tail _ (.tail _ (.head _)))))))))))))))))), .tail _ (.tail _ (.tail _ (.tail _ (.tail _ (.tail _ (.tail _ (.tail _ (.tail _ (.tail _ (.tail _ (.tail _ (.tail _ (.tail _ (.tail _ (.tail _ (.tail _ (.tail _ (.tail _ (.head _))))))))))))))))))), .tail _ (.tail _ (.tail _ (.tail _ (.tail _ (.tail _ (.tail _ (.tail _ (.tail _ (.tail _ (.tail _ (.tail _ (.tail _ (.tail _ (.tail _ (.tail _ (.tail _ (.tail _ (.tail _ (.tail _ (.head _)))))))))))))))))))), trivial⟩) (fun q hq => R1 q (List.mem_append_right _ hq))
set_option maxHeartbeats 1000000 in
theorem op_lost_hit {w : World} {p : Program} {loose : List Str} {mean : ExcName → Option Value} {mg mb : Str → Option Value} {dp un : Nat} {gd : Option (List Code)} {cn : Str} {cs : Scope} {a : Addr} {ccd : Value} {cl : List (Str × Addr)} {outer : List Env} {A₀ : Around} {base h₀ : Heap} {L : Addr} {m : Str → Option Value} {s : Shared} {Q E : Value → Shared → Prop} {rest : List (Addr × Obj)} {x : Fx} {c : Ch} {n : Nat} {wait : Int} {at_ : Addr} {t1 t2 t3 : Tok} {b : Array UInt8} {bb : Bool}
    (B : Below A₀ base outer h₀) (F : Fr h₀ L s.heap m) (X : (hd.heap_1 w.params).In h₀) (T : Top p loose mean mg mb h₀) (hk : cs.kind = .function)
    (N₁ : News h₀ L s.heap ((at_, { cls := .type "tuple", data := .seq #[.str (Str.ofString "path_challenge") t1, .bytes b t2] }) :: CL x c)) (N₂ : News h₀ L s.heap rest) (apart : ∀ q ∈ rest, q.1 ∉ ((at_, { cls := .type "tuple", data := .seq #[.str (Str.ofString "path_challenge") t1, .bytes b t2] }) :: CL x c).map (·.1))
    (cf : CF w wait x c n) (ph : PhF wait x c n (.tried bb)) (hat : ∀ y ∈ CL x c, y.1 ≠ at_) (hat2 : @LT.lt Nat _ c.awc at_) (hb : b ∈ c.bs) (hdp : dp + 10 < recursionLimit) (hun : un + 300 < cLine)
    (ret : ∀ (c1 : Ch) (h1 : Heap) (tk1 : Nat), OffAll (CL x c1) rest → CF w wait x c1 (n) → PhF wait x c1 (n) (.tried true) → Fr h₀ L h1 m → News h₀ L h1 (CL x c1) → News h₀ L h1 rest → Q (.none) { s with heap := h1, toks := tk1 }) :
    wpAny (model PySem.Challenge.rw_pf0276_01.row.toRowW.prog w) (ktrTop dp un gd cn cs L a ccd cl outer) (call (.ref 67) [.ref x.ac, .str (Str.ofString "application") t3, .ref at_]) Q E s := by
  have nd : (((at_, { cls := .type "tuple", data := .seq #[.str (Str.ofString "path_challenge") t1, .bytes b t2] }) :: CL x c).map (·.1)).Nodup := cons_nd (cl_nd cf) hat
  have cfn := cf.hn
  obtain ⟨tch, hchg⟩ := cf.challenged
  obtain ⟨th, hadr⟩ := cf.haddress
  obtain ⟨thS, hst⟩ := cf.hstate
  obtain ⟨tw, wadr⟩ := cf.waddress
  obtain ⟨⟨ts, p1⟩, p2, ⟨td, p3⟩, p4, p5, p6, p7⟩ := ph
  have S1 : SubL ([(x.ac, instObj 449 x.dc), (x.dc, dictOf c.ec c.nc), (at_, { cls := .type "tuple", data := .seq #[.str (Str.ofString "path_challenge") t1, .bytes b t2] }), (x.ap, instObj 282 x.dP), (x.dP, dictOf c.eP c.nP), (x.ak, listOf #[.ref x.ah, .ref x.aw] x.nk), (x.ah, instObj 167 x.dh), (x.dh, dictOf x.eh x.nh), (x.ahc, listOf #[] x.nhc), (x.aw, instObj 167 x.dw), (x.dw, dictOf c.ew c.nw), (c.awc, listOf c.vs.toArray c.nwc)] : List (Addr × Obj)) ((at_, { cls := .type "tuple", data := .seq #[.str (Str.ofString "path_challenge") t1, .bytes b t2] }) :: CL x c) := ⟨.tail _ (.head _), .tail _ (.tail _ (.head _)), .head _, .tail _ (.tail _ (.tail _ (.tail _ (.tail _ (.tail _ (.tail _ (.tail _ (.tail _ (.tail _ (.head _)))))))))), .tail _ (.tail _ (.tail _ (.tail _ (.tail _ (.tail _ (.tail _ (.tail _ (.tail _ (.tail _ (.tail _ (.head _))))))))))), .tail _ (.tail _ (.tail _ (.tail _ (.tail _ (.tail _ (.tail _ (.tail _ (.tail _ (.tail _ (.tail _ (.tail _ (.head _)))))))))))), .tail _ (.tail _ (.tail _ (.tail _ (.tail _ (.tail _ (.tail _ (.tail _ (.tail _ (.tail _ (.tail _ (.tail _ (.tail _ (.head _))))))))))))), .tail _ (.tail _ (.tail _ (.tail _ (.tail _ (.tail _ (.tail _ (.tail _ (.tail _ (.tail _ (.tail _ (.tail _ (.tail _ (.tail _ (.head _)))))))))))))), .tail _ (.tail _ (.tail _ (.tail _ (.tail _ (.tail _ (.tail _ (.tail _ (.tail _ (.tail _ (.tail _ (.tail _ (.tail _ (.tail _ (.tail _ (.head _))))))))))))))), .tail _ (.tail _ (.tail _ (.tail _ (.tail _ (.tail _ (.tail _ (.tail _ (.tail _ (.tail _ (.tail _ (.tail _ (.tail _ (.tail _ (.tail _ (.tail _ (.head _)))))))))))))))), .tail _ (.tail _ (.tail _ (.tail _ (.tail _ (.tail _ (.tail _ (.tail _ (.tail _ (.tail _ (.tail _ (.tail _ (.tail _ (.tail _ (.tail _ (.tail _ (.tail _ (.head _))))))))))))))))), .tail _ (.tail _ (.tail _ (.tail _ (.tail _ (.tail _ (.tail _ (.tail _ (.tail _ (.tail _ (.tail _ (.tail _ (.tail _ (.tail _ (.tail _ (.tail _ (.tail _ (.tail _ (.head _)))))))))))))))))), trivial⟩
  have P : Part (((at_, { cls := .type "tuple", data := .seq #[.str (Str.ofString "path_challenge") t1, .bytes b t2] }) :: CL x c) ++ rest) ([(x.ac, instObj 449 x.dc), (x.dc, dictOf c.ec c.nc), (at_, { cls := .type "tuple", data := .seq #[.str (Str.ofString "path_challenge") t1, .bytes b t2] }), (x.ap, instObj 282 x.dP), (x.dP, dictOf c.eP c.nP), (x.ak, listOf #[.ref x.ah, .ref x.aw] x.nk), (x.ah, instObj 167 x.dh), (x.dh, dictOf x.eh x.nh), (x.ahc, listOf #[] x.nhc), (x.aw, instObj 167 x.dw), (x.dw, dictOf c.ew c.nw), (c.awc, listOf c.vs.toArray c.nwc)] : List (Addr × Obj)) (([(x.fpw, kla_obj x.ln1 x.qn1 x.pa1 x.b1 x.sc1 x.cl1 x.pm1 x.c1 x.ct1), (x.c1, x.oc1), (x.acw, x.ocw), (x.fch, kla_obj x.ln2 x.qn2 x.pa2 x.b2 x.sc2 x.cl2 x.pm2 x.c2 x.ct2), (x.c2, x.oc2), (x.as_, instObj 449 x.ds), (x.ds, dictOf x.es x.ns), (c.aa, listOf #[] c.na), (x.ao, listOf #[] x.no), (x.pt, tabObj x.ps)] : List (Addr × Obj)) ++ rest) := Part.mask [true, true, true, false, false, false, false, false, false, false, true, true, true, true, true, true, true, true, true, false, false, false] nd apart (SubL.mem (l := [(x.ac, instObj 449 x.dc), (x.dc, dictOf c.ec c.nc), (at_, { cls := .type "tuple", data := .seq #[.str (Str.ofString "path_challenge") t1, .bytes b t2] }), (x.ap, instObj 282 x.dP), (x.dP, dictOf c.eP c.nP), (x.ak, listOf #[.ref x.ah, .ref x.aw] x.nk), (x.ah, instObj 167 x.dh), (x.dh, dictOf x.eh x.nh), (x.ahc, listOf #[] x.nhc), (x.aw, instObj 167 x.dw), (x.dw, dictOf c.ew c.nw), (c.awc, listOf c.vs.toArray c.nwc)]) ⟨.tail _ (.head _), .tail _ (.tail _ (.head _)), .head _, .tail _ (.tail _ (.tail _ (.head _))), .tail _ (.tail _ (.tail _ (.tail _ (.head _)))), .tail _ (.tail _ (.tail _ (.tail _ (.tail _ (.head _))))), .tail _ (.tail _ (.tail _ (.tail _ (.tail _ (.tail _ (.head _)))))), .tail _ (.tail _ (.tail _ (.tail _ (.tail _ (.tail _ (.tail _ (.head _))))))), .tail _ (.tail _ (.tail _ (.tail _ (.tail _ (.tail _ (.tail _ (.tail _ (.head _)))))))), .tail _ (.tail _ (.tail _ (.tail _ (.tail _ (.tail _ (.tail _ (.tail _ (.tail _ (.head _))))))))), .tail _ (.tail _ (.tail _ (.tail _ (.tail _ (.tail _ (.tail _ (.tail _ (.tail _ (.tail _ (.head _)))))))))), .tail _ (.tail _ (.tail _ (.tail _ (.tail _ (.tail _ (.tail _ (.tail _ (.tail _ (.tail _ (.tail _ (.head _))))))))))), trivial⟩) (SubL.mem (l := [(x.fpw, kla_obj x.ln1 x.qn1 x.pa1 x.b1 x.sc1 x.cl1 x.pm1 x.c1 x.ct1), (x.c1, x.oc1), (x.acw, x.ocw), (x.fch, kla_obj x.ln2 x.qn2 x.pa2 x.b2 x.sc2 x.cl2 x.pm2 x.c2 x.ct2), (x.c2, x.oc2), (x.as_, instObj 449 x.ds), (x.ds, dictOf x.es x.ns), (c.aa, listOf #[] c.na), (x.ao, listOf #[] x.no), (x.pt, tabObj x.ps)]) ⟨.head _, .tail _ (.head _), .tail _ (.tail _ (.head _)), .tail _ (.tail _ (.tail _ (.head _))), .tail _ (.tail _ (.tail _ (.tail _ (.head _)))), .tail _ (.tail _ (.tail _ (.tail _ (.tail _ (.head _))))), .tail _ (.tail _ (.tail _ (.tail _ (.tail _ (.tail _ (.head _)))))), .tail _ (.tail _ (.tail _ (.tail _ (.tail _ (.tail _ (.tail _ (.head _))))))), .tail _ (.tail _ (.tail _ (.tail _ (.tail _ (.tail _ (.tail _ (.tail _ (.head _)))))))), .tail _ (.tail _ (.tail _ (.tail _ (.tail _ (.tail _ (.tail _ (.tail _ (.tail _ (.head _))))))))), trivial⟩)
  refine' lost_hit (ap := x.ap) (dP := x.dP) (ak := x.ak) (ah := x.ah) (dh := x.dh) (ahc := x.ahc) (aw := x.aw) (dw := x.dw) (awc := c.awc) (eP := c.eP) (eh := x.eh) (ew := c.ew) (nP := c.nP) (nk := x.nk) (nh := x.nh) (nhc := x.nhc) (nw := c.nw) (nwc := c.nwc) (vs := c.vs) (bs := c.bs) (ac := x.ac) (dc := x.dc) (ec := c.ec) (nc := c.nc) B F X T hk (newsSub N₁ S1) (P.news (newsApp N₁ N₂)) P.apart (cf.aP) (cf.aH) (cf.aW) (cf.hv) (cf.known) (cf.hchal) (cf.wchal) (cf.aC.mono (by omega)) (cf.paths) (cf.mol) (p2) (hb) (lo_ord cf hat2) (by omega) (by omega) ?rt
  all_goals (try first | exact Value.none | exact (0 : Nat) | exact (0 : Int) | exact (#[] : Array UInt8))
  rintro tq nw2 h1 tk1 hl2 F1 N1 R1
  have Aew1 : AbsD (putL "wants_more" (PyData.keyHash w.params "wants_more") (.str "wants_more" tq) (.bool true) c.ew) (20) := AbsD.put_old cf.aW (p2) _ _ _
  have cf1 : CF w wait x { c with nw := nw2, ew := (putL "wants_more" (PyData.keyHash w.params "wants_more") (.str "wants_more" tq) (.bool true) c.ew) } (n) := { aC := cf.aC, aS := cf.aS, aP := cf.aP, aH := cf.aH, aW := Aew1, hv := cf.hv, hn := cf.hn, hvl := cf.hvl, paths := cf.paths, shake := cf.shake, challenged := cf.challenged, probe := cf.probe, choose := cf.choose, owed := cf.owed, complete := cf.complete, known := cf.known, answers := cf.answers, mwc := cf.mwc, mol := cf.mol, mtr := cf.mtr, mnt := cf.mnt, mot := cf.mot, haddress := cf.haddress, hstate := cf.hstate, hfree := cf.hfree, hchal := cf.hchal, hdead := cf.hdead, his := cf.his, waddress := ⟨_, gOther cf.aW (by decide) (wadr)⟩, wchal := gOther cf.aW (by decide) (cf.wchal), wprove := gOther cf.aW (by decide) (cf.wprove), wfail := gOther cf.aW (by decide) (cf.wfail), wchallenge := gOther cf.aW (by decide) (cf.wchallenge), wis := gOther cf.aW (by decide) (cf.wis), hPr := cf.hPr, hCh := cf.hCh, ho := cf.ho, haa := cf.haa }
  have ph1 : PhF wait x { c with nw := nw2, ew := (putL "wants_more" (PyData.keyHash w.params "wants_more") (.str "wants_more" tq) (.bool true) c.ew) } (n) (.tried true) := ⟨⟨_, gOther cf.aW (by decide) (p1)⟩, getL_same' _ cf.aW _ _ _, ⟨_, gOther cf.aW (by decide) (p3)⟩, gOther cf.aW (by decide) (p4), p5, p6, p7⟩
  have apartC : ∀ q ∈ rest, q.1 ∉ (CL x c).map (·.1) := apart_tl (apart)
  exact ret  { c with nw := nw2, ew := (putL "wants_more" (PyData.keyHash w.params "wants_more") (.str "wants_more" tq) (.bool true) c.ew) } h1 tk1 (cl_off apartC (fun q hq => apart_ne apartC (y := (c.awc, listOf c.vs.toArray c.nwc)) (.tail _ (.tail _ (.tail _ (.tail _ (.tail _ (.tail _ (.tail _ (.tail _ (.tail _ (.tail _ (.tail _ (.tail _ (.tail _ (.tail _ (.tail _ (.tail _ (.tail _ (.head _)))))))))))))))))) q hq) (fun q hq => apart_ne apartC (y := (c.aa, listOf #[] c.na)) (.tail _ (.tail _ (.tail _ (.tail _ (.tail _ (.tail _ (.tail _ (.tail _ (.tail _ (.tail _ (.tail _ (.tail _ (.tail _ (.tail _ (.tail _ (.tail _ (.tail _ (.tail _ (.head _))))))))))))))))))) q hq)) cf1 ph1  F1 (newsSub (newsApp N1 R1) ⟨.head _, .tail _ (.head _), .tail _ (.tail _ (.tail _ (.tail _ (.tail _ (.tail _ (.tail _ (.tail _ (.tail _ (.tail _ (.tail _ (.head _))))))))))), .tail _ (.tail _ (.tail _ (.tail _ (.tail _ (.tail _ (.tail _ (.tail _ (.tail _ (.tail _ (.tail _ (.tail _ (.head _)))))))))))), .tail _ (.tail _ (.tail _ (.tail _ (.tail _ (.tail _ (.tail _ (.tail _ (.tail _ (.tail _ (.tail _ (.tail _ (.tail _ (.head _))))))))))))), .tail _ (.tail _ (.tail _ (.tail _ (.tail _ (.tail _ (.tail _ (.tail _ (.tail _ (.tail _ (.tail _ (.tail _ (.tail _ (.tail _ (.head _)))))))))))))), .tail _ (.tail _ (.tail _ (.tail _ (.tail _ (.tail _ (.tail _ (.tail _ (.tail _ (.tail _ (.tail _ (.tail _ (.tail _ (.tail _ (.tail _ (.head _))))))))))))))), .tail _ (.tail _ (.tail _ (.tail _ (.tail _ (.tail _ (.tail _ (.tail _ (.tail _ (.tail _ (.tail _ (.tail _ (.tail _ (.tail _ (.tail _ (.tail _ (.head _)))))))))))))))), .tail _ (.tail _ (.tail _ (.tail _ (.tail _ (.tail _ (.tail _ (.tail _ (.tail _ (.tail _ (.tail _ (.tail _ (.tail _ (.tail _ (.tail _ (.tail _ (.tail _ (.head _))))))))))))))))), .tail _ (.tail _ (.head _)), .tail _ (.tail _ (.tail _ (.head _))), .tail _ (.tail _ (.tail _ (.tail _ (.head _)))), .tail _ (.tail _ (.tail _ (.tail _ (.tail _ (.head _))))), .tail _ (.tail _ (.tail _ (.tail _ (.tail _ (.tail _ (.head _)))))), .tail _ (.tail _ (.tail _ (.tail _ (.tail _ (.tail _ (.tail _ (.head _))))))), .tail _ (.tail _ (.tail _ (.tail _ (.tail _ (.tail _ (.tail _ (.tail _ (.head _)))))))), .tail _ (.tail _ (.tail _ (.tail _ (.tail _ (.tail _ (.tail _ (.tail _ (.tail _ (.head _))))))))), .tail _ (.tail _ (.tail _ (.tail _ (.tail _ (.tail _ (.tail _ (.tail _ (.tail _ (.tail _ (.head _)))))))))), .tail _ (.tail _ (.tail _ (.tail _ (.tail _ (.tail _ (.tail _ (.tail _ (.tail _ (.tail _ (.tail _ (.tail _ (.tail _ (.tail _ (.tail _ (.tail _ (.tail _ (.tail _ (.head _)))))))))))))))))), .tail _ (.tail _ (.tail _ (.tail _ (.tail _ (.tail _ (.tail _ (.tail _ (.tail _ (.tail _ (.tail _ (.tail _ (.tail _ (.tail _ (.tail _ (.tail _ (.tail _ (.tail _ (.tail _ (.head _))))))))))))))))))), .tail _ (.tail _ (.tail _ (.tail _ (.tail _ (.tail _ (.tail _ (.tail _ (.tail _ (.tail _ (.tail _ (.tail _ (.tail _ (.tail _ (.tail _ (.tail _ (.tail _ (.tail _ (.tail _ (.tail _ (.head _)))))))))))))))))))), trivial⟩) (fun q hq => R1 q (List.mem_append_right _ hq))
set_option maxHeartbeats 1000000 in
theorem op_resp_miss {w : World} {p : Program} {loose : List Str} {mean : ExcName → Option Value} {mg mb : Str → Option Value} {dp un : Nat} {gd : Option (List Code)} {cn : Str} {cs : Scope} {a : Addr} {ccd : Value} {cl : List (Str × Addr)} {outer : List Env} {A₀ : Around} {base h₀ : Heap} {L : Addr} {m : Str → Option Value} {s : Shared} {Q E : Value → Shared → Prop} {rest : List (Addr × Obj)} {x : Fx} {c : Ch} {n : Nat} {wait : Int} {t2 : Tok} {b : Array UInt8}
    (B : Below A₀ base outer h₀) (F : Fr h₀ L s.heap m) (X : (hd.heap_1 w.params).In h₀) (T : Top p loose mean mg mb h₀) (hk : cs.kind = .function)
    (N₁ : News h₀ L s.heap (CL x c)) (N₂ : News h₀ L s.heap rest) (apart : ∀ q ∈ rest, q.1 ∉ (CL x c).map (·.1))
    (cf : CF w wait x c n) (hb : b ∉ c.bs) (hdp : dp + 10 < recursionLimit) (hun : un + 300 < cLine)
    (ret : ∀ (h1 : Heap) (tk1 : Nat), Fr h₀ L h1 m → News h₀ L h1 (CL x c) → News h₀ L h1 rest → Q (.none) { s with heap := h1, toks := tk1 }) :
    wpAny (model PySem.Challenge.rw_pf0276_01.row.toRowW.prog w) (ktrTop dp un gd cn cs L a ccd cl outer) (call (.ref 262) [.ref x.ap, .bytes b t2]) Q E s := by
  have nd : ((CL x c).map (·.1)).Nodup := cl_nd cf
  have cfn := cf.hn
  obtain ⟨tch, hchg⟩ := cf.challenged
  obtain ⟨th, hadr⟩ := cf.haddress
  obtain ⟨thS, hst⟩ := cf.hstate
  obtain ⟨tw, wadr⟩ := cf.waddress
  have S1 : SubL ([(x.ap, instObj 282 x.dP), (x.dP, dictOf c.eP c.nP), (x.ak, listOf #[.ref x.ah, .ref x.aw] x.nk), (x.ah, instObj 167 x.dh), (x.dh, dictOf x.eh x.nh), (x.ahc, listOf #[] x.nhc), (x.aw, instObj 167 x.dw), (x.dw, dictOf c.ew c.nw), (c.awc, listOf c.vs.toArray c.nwc)] : List (Addr × Obj)) (CL x c) := ⟨.tail _ (.tail _ (.tail _ (.tail _ (.tail _ (.tail _ (.tail _ (.tail _ (.tail _ (.head _))))))))), .tail _ (.tail _ (.tail _ (.tail _ (.tail _ (.tail _ (.tail _ (.tail _ (.tail _ (.tail _ (.head _)))))))))), .tail _ (.tail _ (.tail _ (.tail _ (.tail _ (.tail _ (.tail _ (.tail _ (.tail _ (.tail _ (.tail _ (.head _))))))))))), .tail _ (.tail _ (.tail _ (.tail _ (.tail _ (.tail _ (.tail _ (.tail _ (.tail _ (.tail _ (.tail _ (.tail _ (.head _)))))))))))), .tail _ (.tail _ (.tail _ (.tail _ (.tail _ (.tail _ (.tail _ (.tail _ (.tail _ (.tail _ (.tail _ (.tail _ (.tail _ (.head _))))))))))))), .tail _ (.tail _ (.tail _ (.tail _ (.tail _ (.tail _ (.tail _ (.tail _ (.tail _ (.tail _ (.tail _ (.tail _ (.tail _ (.tail _ (.head _)))))))))))))), .tail _ (.tail _ (.tail _ (.tail _ (.tail _ (.tail _ (.tail _ (.tail _ (.tail _ (.tail _ (.tail _ (.tail _ (.tail _ (.tail _ (.tail _ (.head _))))))))))))))), .tail _ (.tail _ (.tail _ (.tail _ (.tail _ (.tail _ (.tail _ (.tail _ (.tail _ (.tail _ (.tail _ (.tail _ (.tail _ (.tail _ (.tail _ (.tail _ (.head _)))))))))))))))), .tail _ (.tail _ (.tail _ (.tail _ (.tail _ (.tail _ (.tail _ (.tail _ (.tail _ (.tail _ (.tail _ (.tail _ (.tail _ (.tail _ (.tail _ (.tail _ (.tail _ (.head _))))))))))))))))), trivial⟩
  have P : Part ((CL x c) ++ rest) ([(x.ap, instObj 282 x.dP), (x.dP, dictOf c.eP c.nP), (x.ak, listOf #[.ref x.ah, .ref x.aw] x.nk), (x.ah, instObj 167 x.dh), (x.dh, dictOf x.eh x.nh), (x.ahc, listOf #[] x.nhc), (x.aw, instObj 167 x.dw), (x.dw, dictOf c.ew c.nw), (c.awc, listOf c.vs.toArray c.nwc)] : List (Addr × Obj)) (([(x.ac, instObj 449 x.dc), (x.dc, dictOf c.ec c.nc), (x.fpw, kla_obj x.ln1 x.qn1 x.pa1 x.b1 x.sc1 x.cl1 x.pm1 x.c1 x.ct1), (x.c1, x.oc1), (x.acw, x.ocw), (x.fch, kla_obj x.ln2 x.qn2 x.pa2 x.b2 x.sc2 x.cl2 x.pm2 x.c2 x.ct2), (x.c2, x.oc2), (x.as_, instObj 449 x.ds), (x.ds, dictOf x.es x.ns), (c.aa, listOf #[] c.na), (x.ao, listOf #[] x.no), (x.pt, tabObj x.ps)] : List (Addr × Obj)) ++ rest) := Part.mask [false, false, false, false, false, false, false, false, false, true, true, true, true, true, true, true, true, true, false, false, false] nd apart (SubL.mem (l := [(x.ap, instObj 282 x.dP), (x.dP, dictOf c.eP c.nP), (x.ak, listOf #[.ref x.ah, .ref x.aw] x.nk), (x.ah, instObj 167 x.dh), (x.dh, dictOf x.eh x.nh), (x.ahc, listOf #[] x.nhc), (x.aw, instObj 167 x.dw), (x.dw, dictOf c.ew c.nw), (c.awc, listOf c.vs.toArray c.nwc)]) ⟨.head _, .tail _ (.head _), .tail _ (.tail _ (.head _)), .tail _ (.tail _ (.tail _ (.head _))), .tail _ (.tail _ (.tail _ (.tail _ (.head _)))), .tail _ (.tail _ (.tail _ (.tail _ (.tail _ (.head _))))), .tail _ (.tail _ (.tail _ (.tail _ (.tail _ (.tail _ (.head _)))))), .tail _ (.tail _ (.tail _ (.tail _ (.tail _ (.tail _ (.tail _ (.head _))))))), .tail _ (.tail _ (.tail _ (.tail _ (.tail _ (.tail _ (.tail _ (.tail _ (.head _)))))))), trivial⟩) (SubL.mem (l := [(x.ac, instObj 449 x.dc), (x.dc, dictOf c.ec c.nc), (x.fpw, kla_obj x.ln1 x.qn1 x.pa1 x.b1 x.sc1 x.cl1 x.pm1 x.c1 x.ct1), (x.c1, x.oc1), (x.acw, x.ocw), (x.fch, kla_obj x.ln2 x.qn2 x.pa2 x.b2 x.sc2 x.cl2 x.pm2 x.c2 x.ct2), (x.c2, x.oc2), (x.as_, instObj 449 x.ds), (x.ds, dictOf x.es x.ns), (c.aa, listOf #[] c.na), (x.ao, listOf #[] x.no), (x.pt, tabObj x.ps)]) ⟨.head _, .tail _ (.head _), .tail _ (.tail _ (.head _)), .tail _ (.tail _ (.tail _ (.head _))), .tail _ (.tail _ (.tail _ (.tail _ (.head _)))), .tail _ (.tail _ (.tail _ (.tail _ (.tail _ (.head _))))), .tail _ (.tail _ (.tail _ (.tail _ (.tail _ (.tail _ (.head _)))))), .tail _ (.tail _ (.tail _ (.tail _ (.tail _ (.tail _ (.tail _ (.head _))))))), .tail _ (.tail _ (.tail _ (.tail _ (.tail _ (.tail _ (.tail _ (.tail _ (.head _)))))))), .tail _ (.tail _ (.tail _ (.tail _ (.tail _ (.tail _ (.tail _ (.tail _ (.tail _ (.head _))))))))), .tail _ (.tail _ (.tail _ (.tail _ (.tail _ (.tail _ (.tail _ (.tail _ (.tail _ (.tail _ (.head _)))))))))), .tail _ (.tail _ (.tail _ (.tail _ (.tail _ (.tail _ (.tail _ (.tail _ (.tail _ (.tail _ (.tail _ (.head _))))))))))), trivial⟩)
  refine' resp_miss (ap := x.ap) (dP := x.dP) (ak := x.ak) (ah := x.ah) (dh := x.dh) (ahc := x.ahc) (aw := x.aw) (dw := x.dw) (awc := c.awc) (eP := c.eP) (eh := x.eh) (ew := c.ew) (nP := c.nP) (nk := x.nk) (nh := x.nh) (nhc := x.nhc) (nw := c.nw) (nwc := c.nwc) (vs := c.vs) (bs := c.bs) B F X T hk (newsSub N₁ S1) (P.news (newsApp N₁ N₂)) P.apart (cf.aP) (cf.aH) (cf.aW) (cf.hv) (cf.known) (cf.hchal) (cf.wchal) (hb) (by omega) (by omega) ?rt
  all_goals (try first | exact Value.none | exact (0 : Nat) | exact (0 : Int) | exact (#[] : Array UInt8))
  rintro  h1 tk1 hl2 F1 N1 R1
  exact ret  h1 tk1 F1 (newsSub (newsApp N1 R1) ⟨.tail _ (.tail _ (.tail _ (.tail _ (.tail _ (.tail _ (.tail _ (.tail _ (.tail _ (.head _))))))))), .tail _ (.tail _ (.tail _ (.tail _ (.tail _ (.tail _ (.tail _ (.tail _ (.tail _ (.tail _ (.head _)))))))))), .tail _ (.tail _ (.tail _ (.tail _ (.tail _ (.tail _ (.tail _ (.tail _ (.tail _ (.tail _ (.tail _ (.head _))))))))))), .tail _ (.tail _ (.tail _ (.tail _ (.tail _ (.tail _ (.tail _ (.tail _ (.tail _ (.tail _ (.tail _ (.tail _ (.head _)))))))))))), .tail _ (.tail _ (.tail _ (.tail _ (.tail _ (.tail _ (.tail _ (.tail _ (.tail _ (.tail _ (.tail _ (.tail _ (.tail _ (.head _))))))))))))), .tail _ (.tail _ (.tail _ (.tail _ (.tail _ (.tail _ (.tail _ (.tail _ (.tail _ (.tail _ (.tail _ (.tail _ (.tail _ (.tail _ (.head _)))))))))))))), .tail _ (.tail _ (.tail _ (.tail _ (.tail _ (.tail _ (.tail _ (.tail _ (.tail _ (.tail _ (.tail _ (.tail _ (.tail _ (.tail _ (.tail _ (.head _))))))))))))))), .tail _ (.tail _ (.tail _ (.tail _ (.tail _ (.tail _ (.tail _ (.tail _ (.tail _ (.tail _ (.tail _ (.tail _ (.tail _ (.tail _ (.tail _ (.tail _ (.head _)))))))))))))))), .tail _ (.tail _ (.tail _ (.tail _ (.tail _ (.tail _ (.tail _ (.tail _ (.tail _ (.tail _ (.tail _ (.tail _ (.tail _ (.tail _ (.tail _ (.tail _ (.tail _ (.head _))))))))))))))))), .head _, .tail _ (.head _), .tail _ (.tail _ (.head _)), .tail _ (.tail _ (.tail _ (.head _))), .tail _ (.tail _ (.tail _ (.tail _ (.head _)))), .tail _ (.tail _ (.tail _ (.tail _ (.tail _ (.head _))))), .tail _ (.tail _ (.tail _ (.tail _ (.tail _ (.tail _ (.head _)))))), .tail _ (.tail _ (.tail _ (.tail _ (.tail _ (.tail _ (.tail _ (.head _))))))), .tail _ (.tail _ (.tail _ (.tail _ (.tail _ (.tail _ (.tail _ (.tail _ (.head _)))))))), .tail _ (.tail _ (.tail _ (.tail _ (.tail _ (.tail _ (.tail _ (.tail _ (.tail _ (.tail _ (.tail _ (.tail _ (.tail _ (.tail _ (.tail _ (.tail _ (.tail _ (.tail _ (.head _)))))))))))))))))), .tail _ (.tail _ (.tail _ (.tail _ (.tail _ (.tail _ (.tail _ (.tail _ (.tail _ (.tail _ (.tail _ (.tail _ (.tail _ (.tail _ (.tail _ (.tail _ (.tail _ (.tail _ (.tail _ (.head _))))))))))))))))))), .tail _ (.tail _ (.tail _ (.tail _ (.tail _ (.tail _ (.tail _ (.tail _ (.tail _ (.tail _ (.tail _ (.tail _ (.tail _ (.tail _ (.tail _ (.tail _ (.tail _ (.tail _ (.tail _ (.tail _ (.head _)))))))))))))))))))), trivial⟩) (fun q hq => R1 q (List.mem_append_right _ hq))
set_option maxHeartbeats 1000000 in
theorem op_resp_hit {w : World} {p : Program} {loose : List Str} {mean : ExcName → Option Value} {mg mb : Str → Option Value} {dp un : Nat} {gd : Option (List Code)} {cn : Str} {cs : Scope} {a : Addr} {ccd : Value} {cl : List (Str × Addr)} {outer : List Env} {A₀ : Around} {base h₀ : Heap} {L : Addr} {m : Str → Option Value} {s : Shared} {Q E : Value → Shared → Prop} {rest : List (Addr × Obj)} {x : Fx} {c : Ch} {n : Nat} {wait : Int} {zz : Addr} {oz : Obj} {t2 : Tok} {b : Array UInt8} {bb : Bool}
    (B : Below A₀ base outer h₀) (F : Fr h₀ L s.heap m) (X : (hd.heap_1 w.params).In h₀) (T : Top p loose mean mg mb h₀) (hk : cs.kind = .function)
    (N₁ : News h₀ L s.heap ((zz, oz) :: CL x c)) (N₂ : News h₀ L s.heap rest) (apart : ∀ q ∈ rest, q.1 ∉ ((zz, oz) :: CL x c).map (·.1))
    (cf : CF w wait x c n) (ph : PhF wait x c n (.tried bb)) (hz : ∀ y ∈ CL x c, y.1 ≠ zz) (hzz : @LT.lt Nat _ c.awc zz) (hb : b ∈ c.bs) (hdp : dp + 10 < recursionLimit) (hun : un + 300 < cLine)
    (ret : ∀ (c1 : Ch) (h1 : Heap) (tk1 : Nat), OffAll ((zz, oz) :: CL x c1) rest → CF w wait x c1 (n) → PhF wait x c1 (n) (.proven) → (∀ y ∈ CL x c1, y.1 ≠ zz) → Fr h₀ L h1 m → News h₀ L h1 ((zz, oz) :: CL x c1) → News h₀ L h1 rest → Q (.ref x.aw) { s with heap := h1, toks := tk1 }) :
    wpAny (model PySem.Challenge.rw_pf0276_01.row.toRowW.prog w) (ktrTop dp un gd cn cs L a ccd cl outer) (call (.ref 262) [.ref x.ap, .bytes b t2]) Q E s := by
  have nd : (((zz, oz) :: CL x c).map (·.1)).Nodup := cons_nd (cl_nd cf) hz
  have cfn := cf.hn
  obtain ⟨tch, hchg⟩ := cf.challenged
  obtain ⟨th, hadr⟩ := cf.haddress
  obtain ⟨thS, hst⟩ := cf.hstate
  obtain ⟨tw, wadr⟩ := cf.waddress
  obtain ⟨⟨ts, p1⟩, p2, ⟨td, p3⟩, p4, p5, p6, p7⟩ := ph
  have S1 : SubL ([(x.ap, instObj 282 x.dP), (x.dP, dictOf c.eP c.nP), (x.ak, listOf #[.ref x.ah, .ref x.aw] x.nk), (x.ah, instObj 167 x.dh), (x.dh, dictOf x.eh x.nh), (x.ahc, listOf #[] x.nhc), (x.aw, instObj 167 x.dw), (x.dw, dictOf c.ew c.nw), (c.awc, listOf c.vs.toArray c.nwc), (zz, oz)] : List (Addr × Obj)) ((zz, oz) :: CL x c) := ⟨.tail _ (.tail _ (.tail _ (.tail _ (.tail _ (.tail _ (.tail _ (.tail _ (.tail _ (.tail _ (.head _)))))))))), .tail _ (.tail _ (.tail _ (.tail _ (.tail _ (.tail _ (.tail _ (.tail _ (.tail _ (.tail _ (.tail _ (.head _))))))))))), .tail _ (.tail _ (.tail _ (.tail _ (.tail _ (.tail _ (.tail _ (.tail _ (.tail _ (.tail _ (.tail _ (.tail _ (.head _)))))))))))), .tail _ (.tail _ (.tail _ (.tail _ (.tail _ (.tail _ (.tail _ (.tail _ (.tail _ (.tail _ (.tail _ (.tail _ (.tail _ (.head _))))))))))))), .tail _ (.tail _ (.tail _ (.tail _ (.tail _ (.tail _ (.tail _ (.tail _ (.tail _ (.tail _ (.tail _ (.tail _ (.tail _ (.tail _ (.head _)))))))))))))), .tail _ (.tail _ (.tail _ (.tail _ (.tail _ (.tail _ (.tail _ (.tail _ (.tail _ (.tail _ (.tail _ (.tail _ (.tail _ (.tail _ (.tail _ (.head _))))))))))))))), .tail _ (.tail _ (.tail _ (.tail _ (.tail _ (.tail _ (.tail _ (.tail _ (.tail _ (.tail _ (.tail _ (.tail _ (.tail _ (.tail _ (.tail _ (.tail _ (.head _)))))))))))))))), .tail _ (.tail _ (.tail _ (.tail _ (.tail _ (.tail _ (.tail _ (.tail _ (.tail _ (.tail _ (.tail _ (.tail _ (.tail _ (.tail _ (.tail _ (.tail _ (.tail _ (.head _))))))))))))))))), .tail _ (.tail _ (.tail _ (.tail _ (.tail _ (.tail _ (.tail _ (.tail _ (.tail _ (.tail _ (.tail _ (.tail _ (.tail _ (.tail _ (.tail _ (.tail _ (.tail _ (.tail _ (.head _)))))))))))))))))), .head _, trivial⟩
  have P : Part (((zz, oz) :: CL x c) ++ rest) ([(x.ap, instObj 282 x.dP), (x.dP, dictOf c.eP c.nP), (x.ak, listOf #[.ref x.ah, .ref x.aw] x.nk), (x.ah, instObj 167 x.dh), (x.dh, dictOf x.eh x.nh), (x.ahc, listOf #[] x.nhc), (x.aw, instObj 167 x.dw), (x.dw, dictOf c.ew c.nw), (c.awc, listOf c.vs.toArray c.nwc), (zz, oz)] : List (Addr × Obj)) (([(x.ac, instObj 449 x.dc), (x.dc, dictOf c.ec c.nc), (x.fpw, kla_obj x.ln1 x.qn1 x.pa1 x.b1 x.sc1 x.cl1 x.pm1 x.c1 x.ct1), (x.c1, x.oc1), (x.acw, x.ocw), (x.fch, kla_obj x.ln2 x.qn2 x.pa2 x.b2 x.sc2 x.cl2 x.pm2 x.c2 x.ct2), (x.c2, x.oc2), (x.as_, instObj 449 x.ds), (x.ds, dictOf x.es x.ns), (c.aa, listOf #[] c.na), (x.ao, listOf #[] x.no), (x.pt, tabObj x.ps)] : List (Addr × Obj)) ++ rest) := Part.mask [true, false, false, false, false, false, false, false, false, false, true, true, true, true, true, true, true, true, true, false, false, false] nd apart (SubL.mem (l := [(x.ap, instObj 282 x.dP), (x.dP, dictOf c.eP c.nP), (x.ak, listOf #[.ref x.ah, .ref x.aw] x.nk), (x.ah, instObj 167 x.dh), (x.dh, dictOf x.eh x.nh), (x.ahc, listOf #[] x.nhc), (x.aw, instObj 167 x.dw), (x.dw, dictOf c.ew c.nw), (c.awc, listOf c.vs.toArray c.nwc), (zz, oz)]) ⟨.tail _ (.head _), .tail _ (.tail _ (.head _)), .tail _ (.tail _ (.tail _ (.head _))), .tail _ (.tail _ (.tail _ (.tail _ (.head _)))), .tail _ (.tail _ (.tail _ (.tail _ (.tail _ (.head _))))), .tail _ (.tail _ (.tail _ (.tail _ (.tail _ (.tail _ (.head _)))))), .tail _ (.tail _ (.tail _ (.tail _ (.tail _ (.tail _ (.tail _ (.head _))))))), .tail _ (.tail _ (.tail _ (.tail _ (.tail _ (.tail _ (.tail _ (.tail _ (.head _)))))))), .tail _ (.tail _ (.tail _ (.tail _ (.tail _ (.tail _ (.tail _ (.tail _ (.tail _ (.head _))))))))), .head _, trivial⟩) (SubL.mem (l := [(x.ac, instObj 449 x.dc), (x.dc, dictOf c.ec c.nc), (x.fpw, kla_obj x.ln1 x.qn1 x.pa1 x.b1 x.sc1 x.cl1 x.pm1 x.c1 x.ct1), (x.c1, x.oc1), (x.acw, x.ocw), (x.fch, kla_obj x.ln2 x.qn2 x.pa2 x.b2 x.sc2 x.cl2 x.pm2 x.c2 x.ct2), (x.c2, x.oc2), (x.as_, instObj 449 x.ds), (x.ds, dictOf x.es x.ns), (c.aa, listOf #[] c.na), (x.ao, listOf #[] x.no), (x.pt, tabObj x.ps)]) ⟨.head _, .tail _ (.head _), .tail _ (.tail _ (.head _)), .tail _ (.tail _ (.tail _ (.head _))), .tail _ (.tail _ (.tail _ (.tail _ (.head _)))), .tail _ (.tail _ (.tail _ (.tail _ (.tail _ (.head _))))), .tail _ (.tail _ (.tail _ (.tail _ (.tail _ (.tail _ (.head _)))))), .tail _ (.tail _ (.tail _ (.tail _ (.tail _ (.tail _ (.tail _ (.head _))))))), .tail _ (.tail _ (.tail _ (.tail _ (.tail _ (.tail _ (.tail _ (.tail _ (.head _)))))))), .tail _ (.tail _ (.tail _ (.tail _ (.tail _ (.tail _ (.tail _ (.tail _ (.tail _ (.head _))))))))), .tail _ (.tail _ (.tail _ (.tail _ (.tail _ (.tail _ (.tail _ (.tail _ (.tail _ (.tail _ (.head _)))))))))), .tail _ (.tail _ (.tail _ (.tail _ (.tail _ (.tail _ (.tail _ (.tail _ (.tail _ (.tail _ (.tail _ (.head _))))))))))), trivial⟩)
  refine' resp_hit (ap := x.ap) (dP := x.dP) (ak := x.ak) (ah := x.ah) (dh := x.dh) (ahc := x.ahc) (aw := x.aw) (dw := x.dw) (awc := c.awc) (eP := c.eP) (eh := x.eh) (ew := c.ew) (nP := c.nP) (nk := x.nk) (nh := x.nh) (nhc := x.nhc) (nw := c.nw) (nwc := c.nwc) (vs := c.vs) (bs := c.bs) B F X T hk (newsSub N₁ S1) (P.news (newsApp N₁ N₂)) P.apart (cf.aP) (cf.aH) (cf.aW) (cf.hv) (cf.known) (cf.hchal) (cf.wchal) (hadr) (wadr) (p1) (p4) (p3) (p2) (cf.wprove) (p5) (p6) (hb) (po_ord cf) (hzz) (by omega) (by omega) ?rt
  all_goals (try first | exact Value.none | exact (0 : Nat) | exact (0 : Int) | exact (#[] : Array UInt8))
  rintro q0 q1 q2 q3 q4 q5 q6 an nP2 nw2 na h1 tk1 hl2 ⟨f0, f1⟩ F1 N1 R1
  have hwa : an ≠ c.aa := hl2 _ (.tail _ (.tail _ (.tail _ (.tail _ (.tail _ (.tail _ (.tail _ (.tail _ (.head _))))))))) (c.aa, listOf #[] c.na) (List.mem_append_left _ (.tail _ (.tail _ (.tail _ (.tail _ (.tail _ (.tail _ (.tail _ (.tail _ (.tail _ (.head _)))))))))))
  have hza : zz ≠ c.aa := hl2 _ (.tail _ (.tail _ (.tail _ (.tail _ (.tail _ (.tail _ (.tail _ (.tail _ (.tail _ (.head _)))))))))) (c.aa, listOf #[] c.na) (List.mem_append_left _ (.tail _ (.tail _ (.tail _ (.tail _ (.tail _ (.tail _ (.tail _ (.tail _ (.tail _ (.head _)))))))))))
  have AeP1 : AbsD (putL "last_proven" (PyData.keyHash w.params "last_proven") (.str "last_proven" q6) (.ref x.aw) c.eP) (20) := AbsD.put_old cf.aP (p6) _ _ _
  have Aew1 : AbsD (putL "state" (PyData.keyHash w.params "state") (.str "state" q1) (.str (Str.ofString "proven") q0) c.ew) (20) := AbsD.put_old cf.aW (p1) _ _ _
  have Aew2 : AbsD (putL "is_free" (PyData.keyHash w.params "is_free") (.str "is_free" q2) (.bool true) (putL "state" (PyData.keyHash w.params "state") (.str "state" q1) (.str (Str.ofString "proven") q0) c.ew)) (20) := AbsD.put_old Aew1 (gOther cf.aW (by decide) (p4)) _ _ _
  have Aew3 : AbsD (putL "challenges" (PyData.keyHash w.params "challenges") (.str "challenges" q3) (.ref an) (putL "is_free" (PyData.keyHash w.params "is_free") (.str "is_free" q2) (.bool true) (putL "state" (PyData.keyHash w.params "state") (.str "state" q1) (.str (Str.ofString "proven") q0) c.ew))) (20) := AbsD.put_old Aew2 (gOther Aew1 (by decide) (gOther cf.aW (by decide) (cf.wchal))) _ _ _
  have Aew4 : AbsD (putL "deadline" (PyData.keyHash w.params "deadline") (.str "deadline" q4) (.none) (putL "challenges" (PyData.keyHash w.params "challenges") (.str "challenges" q3) (.ref an) (putL "is_free" (PyData.keyHash w.params "is_free") (.str "is_free" q2) (.bool true) (putL "state" (PyData.keyHash w.params "state") (.str "state" q1) (.str (Str.ofString "proven") q0) c.ew)))) (20) := AbsD.put_old Aew3 (gOther Aew2 (by decide) (gOther Aew1 (by decide) (gOther cf.aW (by decide) (p3)))) _ _ _
  have Aew5 : AbsD (putL "wants_more" (PyData.keyHash w.params "wants_more") (.str "wants_more" q5) (.bool false) (putL "deadline" (PyData.keyHash w.params "deadline") (.str "deadline" q4) (.none) (putL "challenges" (PyData.keyHash w.params "challenges") (.str "challenges" q3) (.ref an) (putL "is_free" (PyData.keyHash w.params "is_free") (.str "is_free" q2) (.bool true) (putL "state" (PyData.keyHash w.params "state") (.str "state" q1) (.str (Str.ofString "proven") q0) c.ew))))) (20) := AbsD.put_old Aew4 (gOther Aew3 (by decide) (gOther Aew2 (by decide) (gOther Aew1 (by decide) (gOther cf.aW (by decide) (p2))))) _ _ _
  have cf1 : CF w wait x { c with awc := an, nwc := na, vs := [], bs := [], eP := (putL "last_proven" (PyData.keyHash w.params "last_proven") (.str "last_proven" q6) (.ref x.aw) c.eP), nP := nP2, ew := (putL "wants_more" (PyData.keyHash w.params "wants_more") (.str "wants_more" q5) (.bool false) (putL "deadline" (PyData.keyHash w.params "deadline") (.str "deadline" q4) (.none) (putL "challenges" (PyData.keyHash w.params "challenges") (.str "challenges" q3) (.ref an) (putL "is_free" (PyData.keyHash w.params "is_free") (.str "is_free" q2) (.bool true) (putL "state" (PyData.keyHash w.params "state") (.str "state" q1) (.str (Str.ofString "proven") q0) c.ew))))), nw := nw2 } (n) := { aC := cf.aC, aS := cf.aS, aP := AeP1, aH := cf.aH, aW := Aew5, hv := BAre.nil, hn := cf.hn, hvl := Nat.zero_le _, paths := cf.paths, shake := cf.shake, challenged := cf.challenged, probe := cf.probe, choose := cf.choose, owed := cf.owed, complete := cf.complete, known := gOther cf.aP (by decide) (cf.known), answers := gOther cf.aP (by decide) (cf.answers), mwc := gOther cf.aP (by decide) (cf.mwc), mol := gOther cf.aP (by decide) (cf.mol), mtr := gOther cf.aP (by decide) (cf.mtr), mnt := gOther cf.aP (by decide) (cf.mnt), mot := gOther cf.aP (by decide) (cf.mot), haddress := cf.haddress, hstate := cf.hstate, hfree := cf.hfree, hchal := cf.hchal, hdead := cf.hdead, his := cf.his, waddress := ⟨_, gOther Aew4 (by decide) (gOther Aew3 (by decide) (gOther Aew2 (by decide) (gOther Aew1 (by decide) (gOther cf.aW (by decide) (wadr)))))⟩, wchal := gOther Aew4 (by decide) (gOther Aew3 (by decide) (getL_same' _ Aew2 _ _ _)), wprove := gOther Aew4 (by decide) (gOther Aew3 (by decide) (gOther Aew2 (by decide) (gOther Aew1 (by decide) (gOther cf.aW (by decide) (cf.wprove))))), wfail := gOther Aew4 (by decide) (gOther Aew3 (by decide) (gOther Aew2 (by decide) (gOther Aew1 (by decide) (gOther cf.aW (by decide) (cf.wfail))))), wchallenge := gOther Aew4 (by decide) (gOther Aew3 (by decide) (gOther Aew2 (by decide) (gOther Aew1 (by decide) (gOther cf.aW (by decide) (cf.wchallenge))))), wis := gOther Aew4 (by decide) (gOther Aew3 (by decide) (gOther Aew2 (by decide) (gOther Aew1 (by decide) (gOther cf.aW (by decide) (cf.wis))))), hPr := cf.hPr, hCh := cf.hCh, ho := ho_awc (z := an) cf (by omega), haa := haa_awc cf hwa }
  have ph1 : PhF wait x { c with awc := an, nwc := na, vs := [], bs := [], eP := (putL "last_proven" (PyData.keyHash w.params "last_proven") (.str "last_proven" q6) (.ref x.aw) c.eP), nP := nP2, ew := (putL "wants_more" (PyData.keyHash w.params "wants_more") (.str "wants_more" q5) (.bool false) (putL "deadline" (PyData.keyHash w.params "deadline") (.str "deadline" q4) (.none) (putL "challenges" (PyData.keyHash w.params "challenges") (.str "challenges" q3) (.ref an) (putL "is_free" (PyData.keyHash w.params "is_free") (.str "is_free" q2) (.bool true) (putL "state" (PyData.keyHash w.params "state") (.str "state" q1) (.str (Str.ofString "proven") q0) c.ew))))), nw := nw2 } (n) (.proven) := ⟨⟨_, gOther Aew4 (by decide) (gOther Aew3 (by decide) (gOther Aew2 (by decide) (gOther Aew1 (by decide) (getL_same' _ cf.aW _ _ _))))⟩, gOther Aew4 (by decide) (getL_same' _ Aew3 _ _ _), gOther cf.aP (by decide) (p5), rfl⟩
  have apartC : ∀ q ∈ rest, q.1 ∉ (CL x c).map (·.1) := apart_tl (apart)
  exact ret  { c with awc := an, nwc := na, vs := [], bs := [], eP := (putL "last_proven" (PyData.keyHash w.params "last_proven") (.str "last_proven" q6) (.ref x.aw) c.eP), nP := nP2, ew := (putL "wants_more" (PyData.keyHash w.params "wants_more") (.str "wants_more" q5) (.bool false) (putL "deadline" (PyData.keyHash w.params "deadline") (.str "deadline" q4) (.none) (putL "challenges" (PyData.keyHash w.params "challenges") (.str "challenges" q3) (.ref an) (putL "is_free" (PyData.keyHash w.params "is_free") (.str "is_free" q2) (.bool true) (putL "state" (PyData.keyHash w.params "state") (.str "state" q1) (.str (Str.ofString "proven") q0) c.ew))))), nw := nw2 } h1 tk1 (OffAll.cons (fun q hq => hl2 _ (.tail _ (.tail _ (.tail _ (.tail _ (.tail _ (.tail _ (.tail _ (.tail _ (.tail _ (.head _)))))))))) q (List.mem_append_right _ hq)) (cl_off apartC (fun q hq => hl2 _ (.tail _ (.tail _ (.tail _ (.tail _ (.tail _ (.tail _ (.tail _ (.tail _ (.head _))))))))) q (List.mem_append_right _ hq)) (fun q hq => apart_ne apartC (y := (c.aa, listOf #[] c.na)) (.tail _ (.tail _ (.tail _ (.tail _ (.tail _ (.tail _ (.tail _ (.tail _ (.tail _ (.tail _ (.tail _ (.tail _ (.tail _ (.tail _ (.tail _ (.tail _ (.tail _ (.tail _ (.head _))))))))))))))))))) q hq))) cf1 ph1 (cl_ne (c' := { c with awc := an, nwc := na, vs := [], bs := [], eP := (putL "last_proven" (PyData.keyHash w.params "last_proven") (.str "last_proven" q6) (.ref x.aw) c.eP), nP := nP2, ew := (putL "wants_more" (PyData.keyHash w.params "wants_more") (.str "wants_more" q5) (.bool false) (putL "deadline" (PyData.keyHash w.params "deadline") (.str "deadline" q4) (.none) (putL "challenges" (PyData.keyHash w.params "challenges") (.str "challenges" q3) (.ref an) (putL "is_free" (PyData.keyHash w.params "is_free") (.str "is_free" q2) (.bool true) (putL "state" (PyData.keyHash w.params "state") (.str "state" q1) (.str (Str.ofString "proven") q0) c.ew))))), nw := nw2 }) cf (by have := po_ord cf; omega) (Nat.ne_of_gt f1) (Ne.symm hza)) F1 (newsSub (newsApp N1 R1) ⟨.tail _ (.tail _ (.tail _ (.tail _ (.tail _ (.tail _ (.tail _ (.tail _ (.tail _ (.head _))))))))), .tail _ (.tail _ (.tail _ (.tail _ (.tail _ (.tail _ (.tail _ (.tail _ (.tail _ (.tail _ (.head _)))))))))), .tail _ (.tail _ (.tail _ (.tail _ (.tail _ (.tail _ (.tail _ (.tail _ (.tail _ (.tail _ (.tail _ (.head _))))))))))), .tail _ (.tail _ (.tail _ (.tail _ (.tail _ (.tail _ (.tail _ (.tail _ (.tail _ (.tail _ (.tail _ (.tail _ (.head _)))))))))))), .tail _ (.tail _ (.tail _ (.tail _ (.tail _ (.tail _ (.tail _ (.tail _ (.tail _ (.tail _ (.tail _ (.tail _ (.tail _ (.head _))))))))))))), .tail _ (.tail _ (.tail _ (.tail _ (.tail _ (.tail _ (.tail _ (.tail _ (.tail _ (.tail _ (.tail _ (.tail _ (.tail _ (.tail _ (.head _)))))))))))))), .tail _ (.tail _ (.tail _ (.tail _ (.tail _ (.tail _ (.tail _ (.tail _ (.tail _ (.tail _ (.tail _ (.tail _ (.tail _ (.tail _ (.tail _ (.head _))))))))))))))), .tail _ (.tail _ (.tail _ (.tail _ (.tail _ (.tail _ (.tail _ (.tail _ (.tail _ (.tail _ (.tail _ (.tail _ (.tail _ (.tail _ (.tail _ (.tail _ (.head _)))))))))))))))), .tail _ (.tail _ (.tail _ (.tail _ (.tail _ (.tail _ (.tail _ (.tail _ (.tail _ (.tail _ (.tail _ (.tail _ (.tail _ (.tail _ (.tail _ (.tail _ (.tail _ (.head _))))))))))))))))), .tail _ (.tail _ (.tail _ (.tail _ (.tail _ (.tail _ (.tail _ (.tail _ (.tail _ (.tail _ (.tail _ (.tail _ (.tail _ (.tail _ (.tail _ (.tail _ (.tail _ (.tail _ (.head _)))))))))))))))))), .head _, .tail _ (.head _), .tail _ (.tail _ (.head _)), .tail _ (.tail _ (.tail _ (.head _))), .tail _ (.tail _ (.tail _ (.tail _ (.head _)))), .tail _ (.tail _ (.tail _ (.tail _ (.tail _ (.head _))))), .tail _ (.tail _ (.tail _ (.tail _ (.tail _ (.tail _ (.head _)))))), .tail _ (.tail _ (.tail _ (.tail _ (.tail _ (.tail _ (.tail _ (.head _))))))), .tail _ (.tail _ (.tail _ (.tail _ (.tail _ (.tail _ (.tail _ (.tail _ (.head _)))))))), .tail _ (.tail _ (.tail _ (.tail _ (.tail _ (.tail _ (.tail _ (.tail _ (.tail _ (.tail _ (.tail _ (.tail _ (.tail _ (.tail _ (.tail _ (.tail _ (.tail _ (.tail _ (.tail _ (.head _))))))))))))))))))), .tail _ (.tail _ (.tail _ (.tail _ (.tail _ (.tail _ (.tail _ (.tail _ (.tail _ (.tail _ (.tail _ (.tail _ (.tail _ (.tail _ (.tail _ (.tail _ (.tail _ (.tail _ (.tail _ (.tail _ (.head _)))))))))))))))))))), .tail _ (.tail _ (.tail _ (.tail _ (.tail _ (.tail _ (.tail _ (.tail _ (.tail _ (.tail _ (.tail _ (.tail _ (.tail _ (.tail _ (.tail _ (.tail _ (.tail _ (.tail _ (.tail _ (.tail _ (.tail _ (.head _))))))))))))))))))))), trivial⟩) (fun q hq => R1 q (List.mem_append_right _ hq))
set_option maxHeartbeats 1000000 in
theorem op_time_over {w : World} {p : Program} {loose : List Str} {mean : ExcName → Option Value} {mg mb : Str → Option Value} {dp un : Nat} {gd : Option (List Code)} {cn : Str} {cs : Scope} {a : Addr} {ccd : Value} {cl : List (Str × Addr)} {outer : List Env} {A₀ : Around} {base h₀ : Heap} {L : Addr} {m : Str → Option Value} {s : Shared} {Q E : Value → Shared → Prop} {rest : List (Addr × Obj)} {x : Fx} {c : Ch} {n : Nat} {wait : Int} {zz : Addr} {oz : Obj} {now : Int} {tn : Tok} {bb : Bool}
    (B : Below A₀ base outer h₀) (F : Fr h₀ L s.heap m) (X : (hd.heap_1 w.params).In h₀) (T : Top p loose mean mg mb h₀) (hk : cs.kind = .function)
    (N₁ : News h₀ L s.heap ((zz, oz) :: CL x c)) (N₂ : News h₀ L s.heap rest) (apart : ∀ q ∈ rest, q.1 ∉ ((zz, oz) :: CL x c).map (·.1))
    (cf : CF w wait x c n) (ph : PhF wait x c n (.tried bb)) (hz : ∀ y ∈ CL x c, y.1 ≠ zz) (hzz : @LT.lt Nat _ c.awc zz) (hle : 3 * wait ≤ now) (hdp : dp + 10 < recursionLimit) (hun : un + 300 < cLine)
    (ret : ∀ (q7 : Tok) (c1 : Ch) (h1 : Heap) (tk1 : Nat), OffAll ((zz, oz) :: CL x c1) rest → CF w wait x c1 (n) → PhF wait x c1 (n) (.home) → (∀ y ∈ CL x c1, y.1 ≠ zz) → Fr h₀ L h1 m → News h₀ L h1 ((zz, oz) :: CL x c1) → News h₀ L h1 rest → Q (.str (Str.ofString "back") q7) { s with heap := h1, toks := tk1 }) :
    wpAny (model PySem.Challenge.rw_pf0276_01.row.toRowW.prog w) (ktrTop dp un gd cn cs L a ccd cl outer) (call (.ref 279) [.ref x.ap, .int now tn]) Q E s := by
  have nd : (((zz, oz) :: CL x c).map (·.1)).Nodup := cons_nd (cl_nd cf) hz
  have cfn := cf.hn
  obtain ⟨tch, hchg⟩ := cf.challenged
  obtain ⟨th, hadr⟩ := cf.haddress
  obtain ⟨thS, hst⟩ := cf.hstate
  obtain ⟨tw, wadr⟩ := cf.waddress
  obtain ⟨⟨ts, p1⟩, p2, ⟨td, p3⟩, p4, p5, p6, p7⟩ := ph
  have S1 : SubL ([(x.ap, instObj 282 x.dP), (x.dP, dictOf c.eP c.nP), (x.ak, listOf #[.ref x.ah, .ref x.aw] x.nk), (x.ah, instObj 167 x.dh), (x.dh, dictOf x.eh x.nh), (x.ahc, listOf #[] x.nhc), (x.aw, instObj 167 x.dw), (x.dw, dictOf c.ew c.nw), (c.awc, listOf c.vs.toArray c.nwc), (zz, oz)] : List (Addr × Obj)) ((zz, oz) :: CL x c) := ⟨.tail _ (.tail _ (.tail _ (.tail _ (.tail _ (.tail _ (.tail _ (.tail _ (.tail _ (.tail _ (.head _)))))))))), .tail _ (.tail _ (.tail _ (.tail _ (.tail _ (.tail _ (.tail _ (.tail _ (.tail _ (.tail _ (.tail _ (.head _))))))))))), .tail _ (.tail _ (.tail _ (.tail _ (.tail _ (.tail _ (.tail _ (.tail _ (.tail _ (.tail _ (.tail _ (.tail _ (.head _)))))))))))), .tail _ (.tail _ (.tail _ (.tail _ (.tail _ (.tail _ (.tail _ (.tail _ (.tail _ (.tail _ (.tail _ (.tail _ (.tail _ (.head _))))))))))))), .tail _ (.tail _ (.tail _ (.tail _ (.tail _ (.tail _ (.tail _ (.tail _ (.tail _ (.tail _ (.tail _ (.tail _ (.tail _ (.tail _ (.head _)))))))))))))), .tail _ (.tail _ (.tail _ (.tail _ (.tail _ (.tail _ (.tail _ (.tail _ (.tail _ (.tail _ (.tail _ (.tail _ (.tail _ (.tail _ (.tail _ (.head _))))))))))))))), .tail _ (.tail _ (.tail _ (.tail _ (.tail _ (.tail _ (.tail _ (.tail _ (.tail _ (.tail _ (.tail _ (.tail _ (.tail _ (.tail _ (.tail _ (.tail _ (.head _)))))))))))))))), .tail _ (.tail _ (.tail _ (.tail _ (.tail _ (.tail _ (.tail _ (.tail _ (.tail _ (.tail _ (.tail _ (.tail _ (.tail _ (.tail _ (.tail _ (.tail _ (.tail _ (.head _))))))))))))))))), .tail _ (.tail _ (.tail _ (.tail _ (.tail _ (.tail _ (.tail _ (.tail _ (.tail _ (.tail _ (.tail _ (.tail _ (.tail _ (.tail _ (.tail _ (.tail _ (.tail _ (.tail _ (.head _)))))))))))))))))), .head _, trivial⟩
  have P : Part (((zz, oz) :: CL x c) ++ rest) ([(x.ap, instObj 282 x.dP), (x.dP, dictOf c.eP c.nP), (x.ak, listOf #[.ref x.ah, .ref x.aw] x.nk), (x.ah, instObj 167 x.dh), (x.dh, dictOf x.eh x.nh), (x.ahc, listOf #[] x.nhc), (x.aw, instObj 167 x.dw), (x.dw, dictOf c.ew c.nw), (c.awc, listOf c.vs.toArray c.nwc), (zz, oz)] : List (Addr × Obj)) (([(x.ac, instObj 449 x.dc), (x.dc, dictOf c.ec c.nc), (x.fpw, kla_obj x.ln1 x.qn1 x.pa1 x.b1 x.sc1 x.cl1 x.pm1 x.c1 x.ct1), (x.c1, x.oc1), (x.acw, x.ocw), (x.fch, kla_obj x.ln2 x.qn2 x.pa2 x.b2 x.sc2 x.cl2 x.pm2 x.c2 x.ct2), (x.c2, x.oc2), (x.as_, instObj 449 x.ds), (x.ds, dictOf x.es x.ns), (c.aa, listOf #[] c.na), (x.ao, listOf #[] x.no), (x.pt, tabObj x.ps)] : List (Addr × Obj)) ++ rest) := Part.mask [true, false, false, false, false, false, false, false, false, false, true, true, true, true, true, true, true, true, true, false, false, false] nd apart (SubL.mem (l := [(x.ap, instObj 282 x.dP), (x.dP, dictOf c.eP c.nP), (x.ak, listOf #[.ref x.ah, .ref x.aw] x.nk), (x.ah, instObj 167 x.dh), (x.dh, dictOf x.eh x.nh), (x.ahc, listOf #[] x.nhc), (x.aw, instObj 167 x.dw), (x.dw, dictOf c.ew c.nw), (c.awc, listOf c.vs.toArray c.nwc), (zz, oz)]) ⟨.tail _ (.head _), .tail _ (.tail _ (.head _)), .tail _ (.tail _ (.tail _ (.head _))), .tail _ (.tail _ (.tail _ (.tail _ (.head _)))), .tail _ (.tail _ (.tail _ (.tail _ (.tail _ (.head _))))), .tail _ (.tail _ (.tail _ (.tail _ (.tail _ (.tail _ (.head _)))))), .tail _ (.tail _ (.tail _ (.tail _ (.tail _ (.tail _ (.tail _ (.head _))))))), .tail _ (.tail _ (.tail _ (.tail _ (.tail _ (.tail _ (.tail _ (.tail _ (.head _)))))))), .tail _ (.tail _ (.tail _ (.tail _ (.tail _ (.tail _ (.tail _ (.tail _ (.tail _ (.head _))))))))), .head _, trivial⟩) (SubL.mem (l := [(x.ac, instObj 449 x.dc), (x.dc, dictOf c.ec c.nc), (x.fpw, kla_obj x.ln1 x.qn1 x.pa1 x.b1 x.sc1 x.cl1 x.pm1 x.c1 x.ct1), (x.c1, x.oc1), (x.acw, x.ocw), (x.fch, kla_obj x.ln2 x.qn2 x.pa2 x.b2 x.sc2 x.cl2 x.pm2 x.c2 x.ct2), (x.c2, x.oc2), (x.as_, instObj 449 x.ds), (x.ds, dictOf x.es x.ns), (c.aa, listOf #[] c.na), (x.ao, listOf #[] x.no), (x.pt, tabObj x.ps)]) ⟨.head _, .tail _ (.head _), .tail _ (.tail _ (.head _)), .tail _ (.tail _ (.tail _ (.head _))), .tail _ (.tail _ (.tail _ (.tail _ (.head _)))), .tail _ (.tail _ (.tail _ (.tail _ (.tail _ (.head _))))), .tail _ (.tail _ (.tail _ (.tail _ (.tail _ (.tail _ (.head _)))))), .tail _ (.tail _ (.tail _ (.tail _ (.tail _ (.tail _ (.tail _ (.head _))))))), .tail _ (.tail _ (.tail _ (.tail _ (.tail _ (.tail _ (.tail _ (.tail _ (.head _)))))))), .tail _ (.tail _ (.tail _ (.tail _ (.tail _ (.tail _ (.tail _ (.tail _ (.tail _ (.head _))))))))), .tail _ (.tail _ (.tail _ (.tail _ (.tail _ (.tail _ (.tail _ (.tail _ (.tail _ (.tail _ (.head _)))))))))), .tail _ (.tail _ (.tail _ (.tail _ (.tail _ (.tail _ (.tail _ (.tail _ (.tail _ (.tail _ (.tail _ (.head _))))))))))), trivial⟩)
  refine' time_over (ap := x.ap) (dP := x.dP) (ak := x.ak) (ah := x.ah) (dh := x.dh) (ahc := x.ahc) (aw := x.aw) (dw := x.dw) (awc := c.awc) (eP := c.eP) (eh := x.eh) (ew := c.ew) (nP := c.nP) (nk := x.nk) (nh := x.nh) (nhc := x.nhc) (nw := c.nw) (nwc := c.nwc) (vs := c.vs) (bs := c.bs) B F X T hk (newsSub N₁ S1) (P.news (newsApp N₁ N₂)) P.apart (cf.aP) (cf.aH) (cf.aW) (cf.hv) (cf.known) (cf.hchal) (cf.wchal) (cf.hdead) (cf.hfree) (p1) (p4) (p3) (p2) (cf.wfail) (p5) (p6) (hle) (po_ord cf) (hzz) (by omega) (by omega) ?rt
  all_goals (try first | exact Value.none | exact (0 : Nat) | exact (0 : Int) | exact (#[] : Array UInt8))
  rintro q0 q1 q2 q3 q4 q5 q6 q7 an nP2 nw2 na h1 tk1 hl2 ⟨f0, f1⟩ F1 N1 R1
  have hwa : an ≠ c.aa := hl2 _ (.tail _ (.tail _ (.tail _ (.tail _ (.tail _ (.tail _ (.tail _ (.tail _ (.head _))))))))) (c.aa, listOf #[] c.na) (List.mem_append_left _ (.tail _ (.tail _ (.tail _ (.tail _ (.tail _ (.tail _ (.tail _ (.tail _ (.tail _ (.head _)))))))))))
  have hza : zz ≠ c.aa := hl2 _ (.tail _ (.tail _ (.tail _ (.tail _ (.tail _ (.tail _ (.tail _ (.tail _ (.tail _ (.head _)))))))))) (c.aa, listOf #[] c.na) (List.mem_append_left _ (.tail _ (.tail _ (.tail _ (.tail _ (.tail _ (.tail _ (.tail _ (.tail _ (.tail _ (.head _)))))))))))
  have AeP1 : AbsD (putL "active" (PyData.keyHash w.params "active") (.str "active" q6) (.ref x.ah) c.eP) (20) := AbsD.put_old cf.aP (p5) _ _ _
  have Aew1 : AbsD (putL "state" (PyData.keyHash w.params "state") (.str "state" q1) (.str (Str.ofString "failed") q0) c.ew) (20) := AbsD.put_old cf.aW (p1) _ _ _
  have Aew2 : AbsD (putL "is_free" (PyData.keyHash w.params "is_free") (.str "is_free" q2) (.bool false) (putL "state" (PyData.keyHash w.params "state") (.str "state" q1) (.str (Str.ofString "failed") q0) c.ew)) (20) := AbsD.put_old Aew1 (gOther cf.aW (by decide) (p4)) _ _ _
  have Aew3 : AbsD (putL "challenges" (PyData.keyHash w.params "challenges") (.str "challenges" q3) (.ref an) (putL "is_free" (PyData.keyHash w.params "is_free") (.str "is_free" q2) (.bool false) (putL "state" (PyData.keyHash w.params "state") (.str "state" q1) (.str (Str.ofString "failed") q0) c.ew))) (20) := AbsD.put_old Aew2 (gOther Aew1 (by decide) (gOther cf.aW (by decide) (cf.wchal))) _ _ _
  have Aew4 : AbsD (putL "deadline" (PyData.keyHash w.params "deadline") (.str "deadline" q4) (.none) (putL "challenges" (PyData.keyHash w.params "challenges") (.str "challenges" q3) (.ref an) (putL "is_free" (PyData.keyHash w.params "is_free") (.str "is_free" q2) (.bool false) (putL "state" (PyData.keyHash w.params "state") (.str "state" q1) (.str (Str.ofString "failed") q0) c.ew)))) (20) := AbsD.put_old Aew3 (gOther Aew2 (by decide) (gOther Aew1 (by decide) (gOther cf.aW (by decide) (p3)))) _ _ _
  have Aew5 : AbsD (putL "wants_more" (PyData.keyHash w.params "wants_more") (.str "wants_more" q5) (.bool false) (putL "deadline" (PyData.keyHash w.params "deadline") (.str "deadline" q4) (.none) (putL "challenges" (PyData.keyHash w.params "challenges") (.str "challenges" q3) (.ref an) (putL "is_free" (PyData.keyHash w.params "is_free") (.str "is_free" q2) (.bool false) (putL "state" (PyData.keyHash w.params "state") (.str "state" q1) (.str (Str.ofString "failed") q0) c.ew))))) (20) := AbsD.put_old Aew4 (gOther Aew3 (by decide) (gOther Aew2 (by decide) (gOther Aew1 (by decide) (gOther cf.aW (by decide) (p2))))) _ _ _
  have cf1 : CF w wait x { c with awc := an, nwc := na, vs := [], bs := [], eP := (putL "active" (PyData.keyHash w.params "active") (.str "active" q6) (.ref x.ah) c.eP), nP := nP2, ew := (putL "wants_more" (PyData.keyHash w.params "wants_more") (.str "wants_more" q5) (.bool false) (putL "deadline" (PyData.keyHash w.params "deadline") (.str "deadline" q4) (.none) (putL "challenges" (PyData.keyHash w.params "challenges") (.str "challenges" q3) (.ref an) (putL "is_free" (PyData.keyHash w.params "is_free") (.str "is_free" q2) (.bool false) (putL "state" (PyData.keyHash w.params "state") (.str "state" q1) (.str (Str.ofString "failed") q0) c.ew))))), nw := nw2 } (n) := { aC := cf.aC, aS := cf.aS, aP := AeP1, aH := cf.aH, aW := Aew5, hv := BAre.nil, hn := cf.hn, hvl := Nat.zero_le _, paths := cf.paths, shake := cf.shake, challenged := cf.challenged, probe := cf.probe, choose := cf.choose, owed := cf.owed, complete := cf.complete, known := gOther cf.aP (by decide) (cf.known), answers := gOther cf.aP (by decide) (cf.answers), mwc := gOther cf.aP (by decide) (cf.mwc), mol := gOther cf.aP (by decide) (cf.mol), mtr := gOther cf.aP (by decide) (cf.mtr), mnt := gOther cf.aP (by decide) (cf.mnt), mot := gOther cf.aP (by decide) (cf.mot), haddress := cf.haddress, hstate := cf.hstate, hfree := cf.hfree, hchal := cf.hchal, hdead := cf.hdead, his := cf.his, waddress := ⟨_, gOther Aew4 (by decide) (gOther Aew3 (by decide) (gOther Aew2 (by decide) (gOther Aew1 (by decide) (gOther cf.aW (by decide) (wadr)))))⟩, wchal := gOther Aew4 (by decide) (gOther Aew3 (by decide) (getL_same' _ Aew2 _ _ _)), wprove := gOther Aew4 (by decide) (gOther Aew3 (by decide) (gOther Aew2 (by decide) (gOther Aew1 (by decide) (gOther cf.aW (by decide) (cf.wprove))))), wfail := gOther Aew4 (by decide) (gOther Aew3 (by decide) (gOther Aew2 (by decide) (gOther Aew1 (by decide) (gOther cf.aW (by decide) (cf.wfail))))), wchallenge := gOther Aew4 (by decide) (gOther Aew3 (by decide) (gOther Aew2 (by decide) (gOther Aew1 (by decide) (gOther cf.aW (by decide) (cf.wchallenge))))), wis := gOther Aew4 (by decide) (gOther Aew3 (by decide) (gOther Aew2 (by decide) (gOther Aew1 (by decide) (gOther cf.aW (by decide) (cf.wis))))), hPr := cf.hPr, hCh := cf.hCh, ho := ho_awc (z := an) cf (by omega), haa := haa_awc cf hwa }
  have ph1 : PhF wait x { c with awc := an, nwc := na, vs := [], bs := [], eP := (putL "active" (PyData.keyHash w.params "active") (.str "active" q6) (.ref x.ah) c.eP), nP := nP2, ew := (putL "wants_more" (PyData.keyHash w.params "wants_more") (.str "wants_more" q5) (.bool false) (putL "deadline" (PyData.keyHash w.params "deadline") (.str "deadline" q4) (.none) (putL "challenges" (PyData.keyHash w.params "challenges") (.str "challenges" q3) (.ref an) (putL "is_free" (PyData.keyHash w.params "is_free") (.str "is_free" q2) (.bool false) (putL "state" (PyData.keyHash w.params "state") (.str "state" q1) (.str (Str.ofString "failed") q0) c.ew))))), nw := nw2 } (n) (.home) := ⟨⟨_, gOther Aew4 (by decide) (gOther Aew3 (by decide) (gOther Aew2 (by decide) (gOther Aew1 (by decide) (getL_same' _ cf.aW _ _ _))))⟩, gOther Aew4 (by decide) (getL_same' _ Aew3 _ _ _), getL_same' _ cf.aP _ _ _, rfl⟩
  have apartC : ∀ q ∈ rest, q.1 ∉ (CL x c).map (·.1) := apart_tl (apart)
  exact ret q7 { c with awc := an, nwc := na, vs := [], bs := [], eP := (putL "active" (PyData.keyHash w.params "active") (.str "active" q6) (.ref x.ah) c.eP), nP := nP2, ew := (putL "wants_more" (PyData.keyHash w.params "wants_more") (.str "wants_more" q5) (.bool false) (putL "deadline" (PyData.keyHash w.params "deadline") (.str "deadline" q4) (.none) (putL "challenges" (PyData.keyHash w.params "challenges") (.str "challenges" q3) (.ref an) (putL "is_free" (PyData.keyHash w.params "is_free") (.str "is_free" q2) (.bool false) (putL "state" (PyData.keyHash w.params "state") (.str "state" q1) (.str (Str.ofString "failed") q0) c.ew))))), nw := nw2 } h1 tk1 (OffAll.cons (fun q hq => hl2 _ (.tail _ (.tail _ (.tail _ (.tail _ (.tail _ (.tail _ (.tail _ (.tail _ (.tail _ (.head _)))))))))) q (List.mem_append_right _ hq)) (cl_off apartC (fun q hq => hl2 _ (.tail _ (.tail _ (.tail _ (.tail _ (.tail _ (.tail _ (.tail _ (.tail _ (.head _))))))))) q (List.mem_append_right _ hq)) (fun q hq => apart_ne apartC (y := (c.aa, listOf #[] c.na)) (.tail _ (.tail _ (.tail _ (.tail _ (.tail _ (.tail _ (.tail _ (.tail _ (.tail _ (.tail _ (.tail _ (.tail _ (.tail _ (.tail _ (.tail _ (.tail _ (.tail _ (.tail _ (.head _))))))))))))))))))) q hq))) cf1 ph1 (cl_ne (c' := { c with awc := an, nwc := na, vs := [], bs := [], eP := (putL "active" (PyData.keyHash w.params "active") (.str "active" q6) (.ref x.ah) c.eP), nP := nP2, ew := (putL "wants_more" (PyData.keyHash w.params "wants_more") (.str "wants_more" q5) (.bool false) (putL "deadline" (PyData.keyHash w.params "deadline") (.str "deadline" q4) (.none) (putL "challenges" (PyData.keyHash w.params "challenges") (.str "challenges" q3) (.ref an) (putL "is_free" (PyData.keyHash w.params "is_free") (.str "is_free" q2) (.bool false) (putL "state" (PyData.keyHash w.params "state") (.str "state" q1) (.str (Str.ofString "failed") q0) c.ew))))), nw := nw2 }) cf (by have := po_ord cf; omega) (Nat.ne_of_gt f1) (Ne.symm hza)) F1 (newsSub (newsApp N1 R1) ⟨.tail _ (.tail _ (.tail _ (.tail _ (.tail _ (.tail _ (.tail _ (.tail _ (.tail _ (.head _))))))))), .tail _ (.tail _ (.tail _ (.tail _ (.tail _ (.tail _ (.tail _ (.tail _ (.tail _ (.tail _ (.head _)))))))))), .tail _ (.tail _ (.tail _ (.tail _ (.tail _ (.tail _ (.tail _ (.tail _ (.tail _ (.tail _ (.tail _ (.head _))))))))))), .tail _ (.tail _ (.tail _ (.tail _ (.tail _ (.tail _ (.tail _ (.tail _ (.tail _ (.tail _ (.tail _ (.tail _ (.head _)))))))))))), .tail _ (.tail _ (.tail _ (.tail _ (.tail _ (.tail _ (.tail _ (.tail _ (.tail _ (.tail _ (.tail _ (.tail _ (.tail _ (.head _))))))))))))), .tail _ (.tail _ (.tail _ (.tail _ (.tail _ (.tail _ (.tail _ (.tail _ (.tail _ (.tail _ (.tail _ (.tail _ (.tail _ (.tail _ (.head _)))))))))))))), .tail _ (.tail _ (.tail _ (.tail _ (.tail _ (.tail _ (.tail _ (.tail _ (.tail _ (.tail _ (.tail _ (.tail _ (.tail _ (.tail _ (.tail _ (.head _))))))))))))))), .tail _ (.tail _ (.tail _ (.tail _ (.tail _ (.tail _ (.tail _ (.tail _ (.tail _ (.tail _ (.tail _ (.tail _ (.tail _ (.tail _ (.tail _ (.tail _ (.head _)))))))))))))))), .tail _ (.tail _ (.tail _ (.tail _ (.tail _ (.tail _ (.tail _ (.tail _ (.tail _ (.tail _ (.tail _ (.tail _ (.tail _ (.tail _ (.tail _ (.tail _ (.tail _ (.head _))))))))))))))))), .tail _ (.tail _ (.tail _ (.tail _ (.tail _ (.tail _ (.tail _ (.tail _ (.tail _ (.tail _ (.tail _ (.tail _ (.tail _ (.tail _ (.tail _ (.tail _ (.tail _ (.tail _ (.head _)))))))))))))))))), .head _, .tail _ (.head _), .tail _ (.tail _ (.head _)), .tail _ (.tail _ (.tail _ (.head _))), .tail _ (.tail _ (.tail _ (.tail _ (.head _)))), .tail _ (.tail _ (.tail _ (.tail _ (.tail _ (.head _))))), .tail _ (.tail _ (.tail _ (.tail _ (.tail _ (.tail _ (.head _)))))), .tail _ (.tail _ (.tail _ (.tail _ (.tail _ (.tail _ (.tail _ (.head _))))))), .tail _ (.tail _ (.tail _ (.tail _ (.tail _ (.tail _ (.tail _ (.tail _ (.head _)))))))), .tail _ (.tail _ (.tail _ (.tail _ (.tail _ (.tail _ (.tail _ (.tail _ (.tail _ (.tail _ (.tail _ (.tail _ (.tail _ (.tail _ (.tail _ (.tail _ (.tail _ (.tail _ (.tail _ (.head _))))))))))))))))))), .tail _ (.tail _ (.tail _ (.tail _ (.tail _ (.tail _ (.tail _ (.tail _ (.tail _ (.tail _ (.tail _ (.tail _ (.tail _ (.tail _ (.tail _ (.tail _ (.tail _ (.tail _ (.tail _ (.tail _ (.head _)))))))))))))))))))), .tail _ (.tail _ (.tail _ (.tail _ (.tail _ (.tail _ (.tail _ (.tail _ (.tail _ (.tail _ (.tail _ (.tail _ (.tail _ (.tail _ (.tail _ (.tail _ (.tail _ (.tail _ (.tail _ (.tail _ (.tail _ (.head _))))))))))))))))))))), trivial⟩) (fun q hq => R1 q (List.mem_append_right _ hq))
set_option maxHeartbeats 1000000 in
theorem op_time_tried {w : World} {p : Program} {loose : List Str} {mean : ExcName → Option Value} {mg mb : Str → Option Value} {dp un : Nat} {gd : Option (List Code)} {cn : Str} {cs : Scope} {a : Addr} {ccd : Value} {cl : List (Str × Addr)} {outer : List Env} {A₀ : Around} {base h₀ : Heap} {L : Addr} {m : Str → Option Value} {s : Shared} {Q E : Value → Shared → Prop} {rest : List (Addr × Obj)} {x : Fx} {c : Ch} {n : Nat} {wait : Int} {now : Int} {tn : Tok} {bb : Bool}
    (B : Below A₀ base outer h₀) (F : Fr h₀ L s.heap m) (X : (hd.heap_1 w.params).In h₀) (T : Top p loose mean mg mb h₀) (hk : cs.kind = .function)
    (N₁ : News h₀ L s.heap (CL x c)) (N₂ : News h₀ L s.heap rest) (apart : ∀ q ∈ rest, q.1 ∉ (CL x c).map (·.1))
    (cf : CF w wait x c n) (ph : PhF wait x c n (.tried bb)) (hle : now < 3 * wait) (hdp : dp + 10 < recursionLimit) (hun : un + 300 < cLine)
    (ret : ∀ (q7 : Tok) (h1 : Heap) (tk1 : Nat), Fr h₀ L h1 m → News h₀ L h1 (CL x c) → News h₀ L h1 rest → Q (.str (Str.ofString "same") q7) { s with heap := h1, toks := tk1 }) :
    wpAny (model PySem.Challenge.rw_pf0276_01.row.toRowW.prog w) (ktrTop dp un gd cn cs L a ccd cl outer) (call (.ref 279) [.ref x.ap, .int now tn]) Q E s := by
  have nd : ((CL x c).map (·.1)).Nodup := cl_nd cf
  have cfn := cf.hn
  obtain ⟨tch, hchg⟩ := cf.challenged
  obtain ⟨th, hadr⟩ := cf.haddress
  obtain ⟨thS, hst⟩ := cf.hstate
  obtain ⟨tw, wadr⟩ := cf.waddress
  obtain ⟨⟨ts, p1⟩, p2, ⟨td, p3⟩, p4, p5, p6, p7⟩ := ph
  have S1 : SubL ([(x.ap, instObj 282 x.dP), (x.dP, dictOf c.eP c.nP), (x.ak, listOf #[.ref x.ah, .ref x.aw] x.nk), (x.ah, instObj 167 x.dh), (x.dh, dictOf x.eh x.nh), (x.ahc, listOf #[] x.nhc), (x.aw, instObj 167 x.dw), (x.dw, dictOf c.ew c.nw), (c.awc, listOf c.vs.toArray c.nwc)] : List (Addr × Obj)) (CL x c) := ⟨.tail _ (.tail _ (.tail _ (.tail _ (.tail _ (.tail _ (.tail _ (.tail _ (.tail _ (.head _))))))))), .tail _ (.tail _ (.tail _ (.tail _ (.tail _ (.tail _ (.tail _ (.tail _ (.tail _ (.tail _ (.head _)))))))))), .tail _ (.tail _ (.tail _ (.tail _ (.tail _ (.tail _ (.tail _ (.tail _ (.tail _ (.tail _ (.tail _ (.head _))))))))))), .tail _ (.tail _ (.tail _ (.tail _ (.tail _ (.tail _ (.tail _ (.tail _ (.tail _ (.tail _ (.tail _ (.tail _ (.head _)))))))))))), .tail _ (.tail _ (.tail _ (.tail _ (.tail _ (.tail _ (.tail _ (.tail _ (.tail _ (.tail _ (.tail _ (.tail _ (.tail _ (.head _))))))))))))), .tail _ (.tail _ (.tail _ (.tail _ (.tail _ (.tail _ (.tail _ (.tail _ (.tail _ (.tail _ (.tail _ (.tail _ (.tail _ (.tail _ (.head _)))))))))))))), .tail _ (.tail _ (.tail _ (.tail _ (.tail _ (.tail _ (.tail _ (.tail _ (.tail _ (.tail _ (.tail _ (.tail _ (.tail _ (.tail _ (.tail _ (.head _))))))))))))))), .tail _ (.tail _ (.tail _ (.tail _ (.tail _ (.tail _ (.tail _ (.tail _ (.tail _ (.tail _ (.tail _ (.tail _ (.tail _ (.tail _ (.tail _ (.tail _ (.head _)))))))))))))))), .tail _ (.tail _ (.tail _ (.tail _ (.tail _ (.tail _ (.tail _ (.tail _ (.tail _ (.tail _ (.tail _ (.tail _ (.tail _ (.tail _ (.tail _ (.tail _ (.tail _ (.head _))))))))))))))))), trivial⟩
  have P : Part ((CL x c) ++ rest) ([(x.ap, instObj 282 x.dP), (x.dP, dictOf c.eP c.nP), (x.ak, listOf #[.ref x.ah, .ref x.aw] x.nk), (x.ah, instObj 167 x.dh), (x.dh, dictOf x.eh x.nh), (x.ahc, listOf #[] x.nhc), (x.aw, instObj 167 x.dw), (x.dw, dictOf c.ew c.nw), (c.awc, listOf c.vs.toArray c.nwc)] : List (Addr × Obj)) (([(x.ac, instObj 449 x.dc), (x.dc, dictOf c.ec c.nc), (x.fpw, kla_obj x.ln1 x.qn1 x.pa1 x.b1 x.sc1 x.cl1 x.pm1 x.c1 x.ct1), (x.c1, x.oc1), (x.acw, x.ocw), (x.fch, kla_obj x.ln2 x.qn2 x.pa2 x.b2 x.sc2 x.cl2 x.pm2 x.c2 x.ct2), (x.c2, x.oc2), (x.as_, instObj 449 x.ds), (x.ds, dictOf x.es x.ns), (c.aa, listOf #[] c.na), (x.ao, listOf #[] x.no), (x.pt, tabObj x.ps)] : List (Addr × Obj)) ++ rest) := Part.mask [false, false, false, false, false, false, false, false, false, true, true, true, true, true, true, true, true, true, false, false, false] nd apart (SubL.mem (l := [(x.ap, instObj 282 x.dP), (x.dP, dictOf c.eP c.nP), (x.ak, listOf #[.ref x.ah, .ref x.aw] x.nk), (x.ah, instObj 167 x.dh), (x.dh, dictOf x.eh x.nh), (x.ahc, listOf #[] x.nhc), (x.aw, instObj 167 x.dw), (x.dw, dictOf c.ew c.nw), (c.awc, listOf c.vs.toArray c.nwc)]) ⟨.head _, .tail _ (.head _), .tail _ (.tail _ (.head _)), .tail _ (.tail _ (.tail _ (.head _))), .tail _ (.tail _ (.tail _ (.tail _ (.head _)))), .tail _ (.tail _ (.tail _ (.tail _ (.tail _ (.head _))))), .tail _ (.tail _ (.tail _ (.tail _ (.tail _ (.tail _ (.head _)))))), .tail _ (.tail _ (.tail _ (.tail _ (.tail _ (.tail _ (.tail _ (.head _))))))), .tail _ (.tail _ (.tail _ (.tail _ (.tail _ (.tail _ (.tail _ (.tail _ (.head _)))))))), trivial⟩) (SubL.mem (l := [(x.ac, instObj 449 x.dc), (x.dc, dictOf c.ec c.nc), (x.fpw, kla_obj x.ln1 x.qn1 x.pa1 x.b1 x.sc1 x.cl1 x.pm1 x.c1 x.ct1), (x.c1, x.oc1), (x.acw, x.ocw), (x.fch, kla_obj x.ln2 x.qn2 x.pa2 x.b2 x.sc2 x.cl2 x.pm2 x.c2 x.ct2), (x.c2, x.oc2), (x.as_, instObj 449 x.ds), (x.ds, dictOf x.es x.ns), (c.aa, listOf #[] c.na), (x.ao, listOf #[] x.no), (x.pt, tabObj x.ps)]) ⟨.head _, .tail _ (.head _), .tail _ (.tail _ (.head _)), .tail _ (.tail _ (.tail _ (.head _))), .tail _ (.tail _ (.tail _ (.tail _ (.head _)))), .tail _ (.tail _ (.tail _ (.tail _ (.tail _ (.head _))))), .tail _ (.tail _ (.tail _ (.tail _ (.tail _ (.tail _ (.head _)))))), .tail _ (.tail _ (.tail _ (.tail _ (.tail _ (.tail _ (.tail _ (.head _))))))), .tail _ (.tail _ (.tail _ (.tail _ (.tail _ (.tail _ (.tail _ (.tail _ (.head _)))))))), .tail _ (.tail _ (.tail _ (.tail _ (.tail _ (.tail _ (.tail _ (.tail _ (.tail _ (.head _))))))))), .tail _ (.tail _ (.tail _ (.tail _ (.tail _ (.tail _ (.tail _ (.tail _ (.tail _ (.tail _ (.head _)))))))))), .tail _ (.tail _ (.tail _ (.tail _ (.tail _ (.tail _ (.tail _ (.tail _ (.tail _ (.tail _ (.tail _ (.head _))))))))))), trivial⟩)
  refine' time_tried (ap := x.ap) (dP := x.dP) (ak := x.ak) (ah := x.ah) (dh := x.dh) (ahc := x.ahc) (aw := x.aw) (dw := x.dw) (awc := c.awc) (eP := c.eP) (eh := x.eh) (ew := c.ew) (nP := c.nP) (nk := x.nk) (nh := x.nh) (nhc := x.nhc) (nw := c.nw) (nwc := c.nwc) (vs := c.vs) (bs := c.bs) B F X T hk (newsSub N₁ S1) (P.news (newsApp N₁ N₂)) P.apart (cf.aP) (cf.aH) (cf.aW) (cf.hv) (cf.known) (cf.hchal) (cf.wchal) (cf.hdead) (p1) (p3) (p5) (hle) (by omega) (by omega) ?rt
  all_goals (try first | exact Value.none | exact (0 : Nat) | exact (0 : Int) | exact (#[] : Array UInt8))
  rintro q7 h1 tk1 hl2 F1 N1 R1
  exact ret q7 h1 tk1 F1 (newsSub (newsApp N1 R1) ⟨.tail _ (.tail _ (.tail _ (.tail _ (.tail _ (.tail _ (.tail _ (.tail _ (.tail _ (.head _))))))))), .tail _ (.tail _ (.tail _ (.tail _ (.tail _ (.tail _ (.tail _ (.tail _ (.tail _ (.tail _ (.head _)))))))))), .tail _ (.tail _ (.tail _ (.tail _ (.tail _ (.tail _ (.tail _ (.tail _ (.tail _ (.tail _ (.tail _ (.head _))))))))))), .tail _ (.tail _ (.tail _ (.tail _ (.tail _ (.tail _ (.tail _ (.tail _ (.tail _ (.tail _ (.tail _ (.tail _ (.head _)))))))))))), .tail _ (.tail _ (.tail _ (.tail _ (.tail _ (.tail _ (.tail _ (.tail _ (.tail _ (.tail _ (.tail _ (.tail _ (.tail _ (.head _))))))))))))), .tail _ (.tail _ (.tail _ (.tail _ (.tail _ (.tail _ (.tail _ (.tail _ (.tail _ (.tail _ (.tail _ (.tail _ (.tail _ (.tail _ (.head _)))))))))))))), .tail _ (.tail _ (.tail _ (.tail _ (.tail _ (.tail _ (.tail _ (.tail _ (.tail _ (.tail _ (.tail _ (.tail _ (.tail _ (.tail _ (.tail _ (.head _))))))))))))))), .tail _ (.tail _ (.tail _ (.tail _ (.tail _ (.tail _ (.tail _ (.tail _ (.tail _ (.tail _ (.tail _ (.tail _ (.tail _ (.tail _ (.tail _ (.tail _ (.head _)))))))))))))))), .tail _ (.tail _ (.tail _ (.tail _ (.tail _ (.tail _ (.tail _ (.tail _ (.tail _ (.tail _ (.tail _ (.tail _ (.tail _ (.tail _ (.tail _ (.tail _ (.tail _ (.head _))))))))))))))))), .head _, .tail _ (.head _), .tail _ (.tail _ (.head _)), .tail _ (.tail _ (.tail _ (.head _))), .tail _ (.tail _ (.tail _ (.tail _ (.head _)))), .tail _ (.tail _ (.tail _ (.tail _ (.tail _ (.head _))))), .tail _ (.tail _ (.tail _ (.tail _ (.tail _ (.tail _ (.head _)))))), .tail _ (.tail _ (.tail _ (.tail _ (.tail _ (.tail _ (.tail _ (.head _))))))), .tail _ (.tail _ (.tail _ (.tail _ (.tail _ (.tail _ (.tail _ (.tail _ (.head _)))))))), .tail _ (.tail _ (.tail _ (.tail _ (.tail _ (.tail _ (.tail _ (.tail _ (.tail _ (.tail _ (.tail _ (.tail _ (.tail _ (.tail _ (.tail _ (.tail _ (.tail _ (.tail _ (.head _)))))))))))))))))), .tail _ (.tail _ (.tail _ (.tail _ (.tail _ (.tail _ (.tail _ (.tail _ (.tail _ (.tail _ (.tail _ (.tail _ (.tail _ (.tail _ (.tail _ (.tail _ (.tail _ (.tail _ (.tail _ (.head _))))))))))))))))))), .tail _ (.tail _ (.tail _ (.tail _ (.tail _ (.tail _ (.tail _ (.tail _ (.tail _ (.tail _ (.tail _ (.tail _ (.tail _ (.tail _ (.tail _ (.tail _ (.tail _ (.tail _ (.tail _ (.tail _ (.head _)))))))))))))))))))), trivial⟩) (fun q hq => R1 q (List.mem_append_right _ hq))
set_option maxHeartbeats 1000000 in
theorem op_time_proven {w : World} {p : Program} {loose : List Str} {mean : ExcName → Option Value} {mg mb : Str → Option Value} {dp un : Nat} {gd : Option (List Code)} {cn : Str} {cs : Scope} {a : Addr} {ccd : Value} {cl : List (Str × Addr)} {outer : List Env} {A₀ : Around} {base h₀ : Heap} {L : Addr} {m : Str → Option Value} {s : Shared} {Q E : Value → Shared → Prop} {rest : List (Addr × Obj)} {x : Fx} {c : Ch} {n : Nat} {wait : Int} {now : Int} {tn : Tok}
    (B : Below A₀ base outer h₀) (F : Fr h₀ L s.heap m) (X : (hd.heap_1 w.params).In h₀) (T : Top p loose mean mg mb h₀) (hk : cs.kind = .function)
    (N₁ : News h₀ L s.heap (CL x c)) (N₂ : News h₀ L s.heap rest) (apart : ∀ q ∈ rest, q.1 ∉ (CL x c).map (·.1))
    (cf : CF w wait x c n) (ph : PhF wait x c n (.proven))  (hdp : dp + 10 < recursionLimit) (hun : un + 300 < cLine)
    (ret : ∀ (q7 : Tok) (h1 : Heap) (tk1 : Nat), Fr h₀ L h1 m → News h₀ L h1 (CL x c) → News h₀ L h1 rest → Q (.str (Str.ofString "same") q7) { s with heap := h1, toks := tk1 }) :
    wpAny (model PySem.Challenge.rw_pf0276_01.row.toRowW.prog w) (ktrTop dp un gd cn cs L a ccd cl outer) (call (.ref 279) [.ref x.ap, .int now tn]) Q E s := by
  have nd : ((CL x c).map (·.1)).Nodup := cl_nd cf
  have cfn := cf.hn
  obtain ⟨tch, hchg⟩ := cf.challenged
  obtain ⟨th, hadr⟩ := cf.haddress
  obtain ⟨thS, hst⟩ := cf.hstate
  obtain ⟨tw, wadr⟩ := cf.waddress
  obtain ⟨⟨ts, p1⟩, p2, p3, p4⟩ := ph
  have S1 : SubL ([(x.ap, instObj 282 x.dP), (x.dP, dictOf c.eP c.nP), (x.ak, listOf #[.ref x.ah, .ref x.aw] x.nk), (x.ah, instObj 167 x.dh), (x.dh, dictOf x.eh x.nh), (x.ahc, listOf #[] x.nhc), (x.aw, instObj 167 x.dw), (x.dw, dictOf c.ew c.nw), (c.awc, listOf c.vs.toArray c.nwc)] : List (Addr × Obj)) (CL x c) := ⟨.tail _ (.tail _ (.tail _ (.tail _ (.tail _ (.tail _ (.tail _ (.tail _ (.tail _ (.head _))))))))), .tail _ (.tail _ (.tail _ (.tail _ (.tail _ (.tail _ (.tail _ (.tail _ (.tail _ (.tail _ (.head _)))))))))), .tail _ (.tail _ (.tail _ (.tail _ (.tail _ (.tail _ (.tail _ (.tail _ (.tail _ (.tail _ (.tail _ (.head _))))))))))), .tail _ (.tail _ (.tail _ (.tail _ (.tail _ (.tail _ (.tail _ (.tail _ (.tail _ (.tail _ (.tail _ (.tail _ (.head _)))))))))))), .tail _ (.tail _ (.tail _ (.tail _ (.tail _ (.tail _ (.tail _ (.tail _ (.tail _ (.tail _ (.tail _ (.tail _ (.tail _ (.head _))))))))))))), .tail _ (.tail _ (.tail _ (.tail _ (.tail _ (.tail _ (.tail _ (.tail _ (.tail _ (.tail _ (.tail _ (.tail _ (.tail _ (.tail _ (.head _)))))))))))))), .tail _ (.tail _ (.tail _ (.tail _ (.tail _ (.tail _ (.tail _ (.tail _ (.tail _ (.tail _ (.tail _ (.tail _ (.tail _ (.tail _ (.tail _ (.head _))))))))))))))), .tail _ (.tail _ (.tail _ (.tail _ (.tail _ (.tail _ (.tail _ (.tail _ (.tail _ (.tail _ (.tail _ (.tail _ (.tail _ (.tail _ (.tail _ (.tail _ (.head _)))))))))))))))), .tail _ (.tail _ (.tail _ (.tail _ (.tail _ (.tail _ (.tail _ (.tail _ (.tail _ (.tail _ (.tail _ (.tail _ (.tail _ (.tail _ (.tail _ (.tail _ (.tail _ (.head _))))))))))))))))), trivial⟩
  have P : Part ((CL x c) ++ rest) ([(x.ap, instObj 282 x.dP), (x.dP, dictOf c.eP c.nP), (x.ak, listOf #[.ref x.ah, .ref x.aw] x.nk), (x.ah, instObj 167 x.dh), (x.dh, dictOf x.eh x.nh), (x.ahc, listOf #[] x.nhc), (x.aw, instObj 167 x.dw), (x.dw, dictOf c.ew c.nw), (c.awc, listOf c.vs.toArray c.nwc)] : List (Addr × Obj)) (([(x.ac, instObj 449 x.dc), (x.dc, dictOf c.ec c.nc), (x.fpw, kla_obj x.ln1 x.qn1 x.pa1 x.b1 x.sc1 x.cl1 x.pm1 x.c1 x.ct1), (x.c1, x.oc1), (x.acw, x.ocw), (x.fch, kla_obj x.ln2 x.qn2 x.pa2 x.b2 x.sc2 x.cl2 x.pm2 x.c2 x.ct2), (x.c2, x.oc2), (x.as_, instObj 449 x.ds), (x.ds, dictOf x.es x.ns), (c.aa, listOf #[] c.na), (x.ao, listOf #[] x.no), (x.pt, tabObj x.ps)] : List (Addr × Obj)) ++ rest) := Part.mask [false, false, false, false, false, false, false, false, false, true, true, true, true, true, true, true, true, true, false, false, false] nd apart (SubL.mem (l := [(x.ap, instObj 282 x.dP), (x.dP, dictOf c.eP c.nP), (x.ak, listOf #[.ref x.ah, .ref x.aw] x.nk), (x.ah, instObj 167 x.dh), (x.dh, dictOf x.eh x.nh), (x.ahc, listOf #[] x.nhc), (x.aw, instObj 167 x.dw), (x.dw, dictOf c.ew c.nw), (c.awc, listOf c.vs.toArray c.nwc)]) ⟨.head _, .tail _ (.head _), .tail _ (.tail _ (.head _)), .tail _ (.tail _ (.tail _ (.head _))), .tail _ (.tail _ (.tail _ (.tail _ (.head _)))), .tail _ (.tail _ (.tail _ (.tail _ (.tail _ (.head _))))), .tail _ (.tail _ (.tail _ (.tail _ (.tail _ (.tail _ (.head _)))))), .tail _ (.tail _ (.tail _ (.tail _ (.tail _ (.tail _ (.tail _ (.head _))))))), .tail _ (.tail _ (.tail _ (.tail _ (.tail _ (.tail _ (.tail _ (.tail _ (.head _)))))))), trivial⟩) (SubL.mem (l := [(x.ac, instObj 449 x.dc), (x.dc, dictOf c.ec c.nc), (x.fpw, kla_obj x.ln1 x.qn1 x.pa1 x.b1 x.sc1 x.cl1 x.pm1 x.c1 x.ct1), (x.c1, x.oc1), (x.acw, x.ocw), (x.fch, kla_obj x.ln2 x.qn2 x.pa2 x.b2 x.sc2 x.cl2 x.pm2 x.c2 x.ct2), (x.c2, x.oc2), (x.as_, instObj 449 x.ds), (x.ds, dictOf x.es x.ns), (c.aa, listOf #[] c.na), (x.ao, listOf #[] x.no), (x.pt, tabObj x.ps)]) ⟨.head _, .tail _ (.head _), .tail _ (.tail _ (.head _)), .tail _ (.tail _ (.tail _ (.head _))), .tail _ (.tail _ (.tail _ (.tail _ (.head _)))), .tail _ (.tail _ (.tail _ (.tail _ (.tail _ (.head _))))), .tail _ (.tail _ (.tail _ (.tail _ (.tail _ (.tail _ (.head _)))))), .tail _ (.tail _ (.tail _ (.tail _ (.tail _ (.tail _ (.tail _ (.head _))))))), .tail _ (.tail _ (.tail _ (.tail _ (.tail _ (.tail _ (.tail _ (.tail _ (.head _)))))))), .tail _ (.tail _ (.tail _ (.tail _ (.tail _ (.tail _ (.tail _ (.tail _ (.tail _ (.head _))))))))), .tail _ (.tail _ (.tail _ (.tail _ (.tail _ (.tail _ (.tail _ (.tail _ (.tail _ (.tail _ (.head _)))))))))), .tail _ (.tail _ (.tail _ (.tail _ (.tail _ (.tail _ (.tail _ (.tail _ (.tail _ (.tail _ (.tail _ (.head _))))))))))), trivial⟩)
  refine' time_proven (ap := x.ap) (dP := x.dP) (ak := x.ak) (ah := x.ah) (dh := x.dh) (ahc := x.ahc) (aw := x.aw) (dw := x.dw) (awc := c.awc) (eP := c.eP) (eh := x.eh) (ew := c.ew) (nP := c.nP) (nk := x.nk) (nh := x.nh) (nhc := x.nhc) (nw := c.nw) (nwc := c.nwc) (vs := c.vs) (bs := c.bs) B F X T hk (newsSub N₁ S1) (P.news (newsApp N₁ N₂)) P.apart (cf.aP) (cf.aH) (cf.aW) (cf.hv) (cf.known) (cf.hchal) (cf.wchal) (cf.hdead) (p1) (p2) (p3) (by omega) (by omega) ?rt
  all_goals (try first | exact Value.none | exact (0 : Nat) | exact (0 : Int) | exact (#[] : Array UInt8))
  rintro q7 h1 tk1 hl2 F1 N1 R1
  exact ret q7 h1 tk1 F1 (newsSub (newsApp N1 R1) ⟨.tail _ (.tail _ (.tail _ (.tail _ (.tail _ (.tail _ (.tail _ (.tail _ (.tail _ (.head _))))))))), .tail _ (.tail _ (.tail _ (.tail _ (.tail _ (.tail _ (.tail _ (.tail _ (.tail _ (.tail _ (.head _)))))))))), .tail _ (.tail _ (.tail _ (.tail _ (.tail _ (.tail _ (.tail _ (.tail _ (.tail _ (.tail _ (.tail _ (.head _))))))))))), .tail _ (.tail _ (.tail _ (.tail _ (.tail _ (.tail _ (.tail _ (.tail _ (.tail _ (.tail _ (.tail _ (.tail _ (.head _)))))))))))), .tail _ (.tail _ (.tail _ (.tail _ (.tail _ (.tail _ (.tail _ (.tail _ (.tail _ (.tail _ (.tail _ (.tail _ (.tail _ (.head _))))))))))))), .tail _ (.tail _ (.tail _ (.tail _ (.tail _ (.tail _ (.tail _ (.tail _ (.tail _ (.tail _ (.tail _ (.tail _ (.tail _ (.tail _ (.head _)))))))))))))), .tail _ (.tail _ (.tail _ (.tail _ (.tail _ (.tail _ (.tail _ (.tail _ (.tail _ (.tail _ (.tail _ (.tail _ (.tail _ (.tail _ (.tail _ (.head _))))))))))))))), .tail _ (.tail _ (.tail _ (.tail _ (.tail _ (.tail _ (.tail _ (.tail _ (.tail _ (.tail _ (.tail _ (.tail _ (.tail _ (.tail _ (.tail _ (.tail _ (.head _)))))))))))))))), .tail _ (.tail _ (.tail _ (.tail _ (.tail _ (.tail _ (.tail _ (.tail _ (.tail _ (.tail _ (.tail _ (.tail _ (.tail _ (.tail _ (.tail _ (.tail _ (.tail _ (.head _))))))))))))))))), .head _, .tail _ (.head _), .tail _ (.tail _ (.head _)), .tail _ (.tail _ (.tail _ (.head _))), .tail _ (.tail _ (.tail _ (.tail _ (.head _)))), .tail _ (.tail _ (.tail _ (.tail _ (.tail _ (.head _))))), .tail _ (.tail _ (.tail _ (.tail _ (.tail _ (.tail _ (.head _)))))), .tail _ (.tail _ (.tail _ (.tail _ (.tail _ (.tail _ (.tail _ (.head _))))))), .tail _ (.tail _ (.tail _ (.tail _ (.tail _ (.tail _ (.tail _ (.tail _ (.head _)))))))), .tail _ (.tail _ (.tail _ (.tail _ (.tail _ (.tail _ (.tail _ (.tail _ (.tail _ (.tail _ (.tail _ (.tail _ (.tail _ (.tail _ (.tail _ (.tail _ (.tail _ (.tail _ (.head _)))))))))))))))))), .tail _ (.tail _ (.tail _ (.tail _ (.tail _ (.tail _ (.tail _ (.tail _ (.tail _ (.tail _ (.tail _ (.tail _ (.tail _ (.tail _ (.tail _ (.tail _ (.tail _ (.tail _ (.tail _ (.head _))))))))))))))))))), .tail _ (.tail _ (.tail _ (.tail _ (.tail _ (.tail _ (.tail _ (.tail _ (.tail _ (.tail _ (.tail _ (.tail _ (.tail _ (.tail _ (.tail _ (.tail _ (.tail _ (.tail _ (.tail _ (.tail _ (.head _)))))))))))))))))))), trivial⟩) (fun q hq => R1 q (List.mem_append_right _ hq))
set_option maxHeartbeats 1000000 in
theorem op_time_home {w : World} {p : Program} {loose : List Str} {mean : ExcName → Option Value} {mg mb : Str → Option Value} {dp un : Nat} {gd : Option (List Code)} {cn : Str} {cs : Scope} {a : Addr} {ccd : Value} {cl : List (Str × Addr)} {outer : List Env} {A₀ : Around} {base h₀ : Heap} {L : Addr} {m : Str → Option Value} {s : Shared} {Q E : Value → Shared → Prop} {rest : List (Addr × Obj)} {x : Fx} {c : Ch} {n : Nat} {wait : Int} {now : Int} {tn : Tok}
    (B : Below A₀ base outer h₀) (F : Fr h₀ L s.heap m) (X : (hd.heap_1 w.params).In h₀) (T : Top p loose mean mg mb h₀) (hk : cs.kind = .function)
    (N₁ : News h₀ L s.heap (CL x c)) (N₂ : News h₀ L s.heap rest) (apart : ∀ q ∈ rest, q.1 ∉ (CL x c).map (·.1))
    (cf : CF w wait x c n) (ph : PhF wait x c n (.home))  (hdp : dp + 10 < recursionLimit) (hun : un + 300 < cLine)
    (ret : ∀ (q7 : Tok) (h1 : Heap) (tk1 : Nat), Fr h₀ L h1 m → News h₀ L h1 (CL x c) → News h₀ L h1 rest → Q (.str (Str.ofString "same") q7) { s with heap := h1, toks := tk1 }) :
    wpAny (model PySem.Challenge.rw_pf0276_01.row.toRowW.prog w) (ktrTop dp un gd cn cs L a ccd cl outer) (call (.ref 279) [.ref x.ap, .int now tn]) Q E s := by
  have nd : ((CL x c).map (·.1)).Nodup := cl_nd cf
  have cfn := cf.hn
  obtain ⟨tch, hchg⟩ := cf.challenged
  obtain ⟨th, hadr⟩ := cf.haddress
  obtain ⟨thS, hst⟩ := cf.hstate
  obtain ⟨tw, wadr⟩ := cf.waddress
  obtain ⟨⟨ts, p1⟩, p2, p3, p4⟩ := ph
  have S1 : SubL ([(x.ap, instObj 282 x.dP), (x.dP, dictOf c.eP c.nP), (x.ak, listOf #[.ref x.ah, .ref x.aw] x.nk), (x.ah, instObj 167 x.dh), (x.dh, dictOf x.eh x.nh), (x.ahc, listOf #[] x.nhc), (x.aw, instObj 167 x.dw), (x.dw, dictOf c.ew c.nw), (c.awc, listOf c.vs.toArray c.nwc)] : List (Addr × Obj)) (CL x c) := ⟨.tail _ (.tail _ (.tail _ (.tail _ (.tail _ (.tail _ (.tail _ (.tail _ (.tail _ (.head _))))))))), .tail _ (.tail _ (.tail _ (.tail _ (.tail _ (.tail _ (.tail _ (.tail _ (.tail _ (.tail _ (.head _)))))))))), .tail _ (.tail _ (.tail _ (.tail _ (.tail _ (.tail _ (.tail _ (.tail _ (.tail _ (.tail _ (.tail _ (.head _))))))))))), .tail _ (.tail _ (.tail _ (.tail _ (.tail _ (.tail _ (.tail _ (.tail _ (.tail _ (.tail _ (.tail _ (.tail _ (.head _)))))))))))), .tail _ (.tail _ (.tail _ (.tail _ (.tail _ (.tail _ (.tail _ (.tail _ (.tail _ (.tail _ (.tail _ (.tail _ (.tail _ (.head _))))))))))))), .tail _ (.tail _ (.tail _ (.tail _ (.tail _ (.tail _ (.tail _ (.tail _ (.tail _ (.tail _ (.tail _ (.tail _ (.tail _ (.tail _ (.head _)))))))))))))), .tail _ (.tail _ (.tail _ (.tail _ (.tail _ (.tail _ (.tail _ (.tail _ (.tail _ (.tail _ (.tail _ (.tail _ (.tail _ (.tail _ (.tail _ (.head _))))))))))))))), .tail _ (.tail _ (.tail _ (.tail _ (.tail _ (.tail _ (.tail _ (.tail _ (.tail _ (.tail _ (.tail _ (.tail _ (.tail _ (.tail _ (.tail _ (.tail _ (.head _)))))))))))))))), .tail _ (.tail _ (.tail _ (.tail _ (.tail _ (.tail _ (.tail _ (.tail _ (.tail _ (.tail _ (.tail _ (.tail _ (.tail _ (.tail _ (.tail _ (.tail _ (.tail _ (.head _))))))))))))))))), trivial⟩
  have P : Part ((CL x c) ++ rest) ([(x.ap, instObj 282 x.dP), (x.dP, dictOf c.eP c.nP), (x.ak, listOf #[.ref x.ah, .ref x.aw] x.nk), (x.ah, instObj 167 x.dh), (x.dh, dictOf x.eh x.nh), (x.ahc, listOf #[] x.nhc), (x.aw, instObj 167 x.dw), (x.dw, dictOf c.ew c.nw), (c.awc, listOf c.vs.toArray c.nwc)] : List (Addr × Obj)) (([(x.ac, instObj 449 x.dc), (x.dc, dictOf c.ec c.nc), (x.fpw, kla_obj x.ln1 x.qn1 x.pa1 x.b1 x.sc1 x.cl1 x.pm1 x.c1 x.ct1), (x.c1, x.oc1), (x.acw, x.ocw), (x.fch, kla_obj x.ln2 x.qn2 x.pa2 x.b2 x.sc2 x.cl2 x.pm2 x.c2 x.ct2), (x.c2, x.oc2), (x.as_, instObj 449 x.ds), (x.ds, dictOf x.es x.ns), (c.aa, listOf #[] c.na), (x.ao, listOf #[] x.no), (x.pt, tabObj x.ps)] : List (Addr × Obj)) ++ rest) := Part.mask [false, false, false, false, false, false, false, false, false, true, true, true, true, true, true, true, true, true, false, false, false] nd apart (SubL.mem (l := [(x.ap, instObj 282 x.dP), (x.dP, dictOf c.eP c.nP), (x.ak, listOf #[.ref x.ah, .ref x.aw] x.nk), (x.ah, instObj 167 x.dh), (x.dh, dictOf x.eh x.nh), (x.ahc, listOf #[] x.nhc), (x.aw, instObj 167 x.dw), (x.dw, dictOf c.ew c.nw), (c.awc, listOf c.vs.toArray c.nwc)]) ⟨.head _, .tail _ (.head _), .tail _ (.tail _ (.head _)), .tail _ (.tail _ (.tail _ (.head _))), .tail _ (.tail _ (.tail _ (.tail _ (.head _)))), .tail _ (.tail _ (.tail _ (.tail _ (.tail _ (.head _))))), .tail _ (.tail _ (.tail _ (.tail _ (.tail _ (.tail _ (.head _)))))), .tail _ (.tail _ (.tail _ (.tail _ (.tail _ (.tail _ (.tail _ (.head _))))))), .tail _ (.tail _ (.tail _ (.tail _ (.tail _ (.tail _ (.tail _ (.tail _ (.head _)))))))), trivial⟩) (SubL.mem (l := [(x.ac, instObj 449 x.dc), (x.dc, dictOf c.ec c.nc), (x.fpw, kla_obj x.ln1 x.qn1 x.pa1 x.b1 x.sc1 x.cl1 x.pm1 x.c1 x.ct1), (x.c1, x.oc1), (x.acw, x.ocw), (x.fch, kla_obj x.ln2 x.qn2 x.pa2 x.b2 x.sc2 x.cl2 x.pm2 x.c2 x.ct2), (x.c2, x.oc2), (x.as_, instObj 449 x.ds), (x.ds, dictOf x.es x.ns), (c.aa, listOf #[] c.na), (x.ao, listOf #[] x.no), (x.pt, tabObj x.ps)]) ⟨.head _, .tail _ (.head _), .tail _ (.tail _ (.head _)), .tail _ (.tail _ (.tail _ (.head _))), .tail _ (.tail _ (.tail _ (.tail _ (.head _)))), .tail _ (.tail _ (.tail _ (.tail _ (.tail _ (.head _))))), .tail _ (.tail _ (.tail _ (.tail _ (.tail _ (.tail _ (.head _)))))), .tail _ (.tail _ (.tail _ (.tail _ (.tail _ (.tail _ (.tail _ (.head _))))))), .tail _ (.tail _ (.tail _ (.tail _ (.tail _ (.tail _ (.tail _ (.tail _ (.head _)))))))), .tail _ (.tail _ (.tail _ (.tail _ (.tail _ (.tail _ (.tail _ (.tail _ (.tail _ (.head _))))))))), .tail _ (.tail _ (.tail _ (.tail _ (.tail _ (.tail _ (.tail _ (.tail _ (.tail _ (.tail _ (.head _)))))))))), .tail _ (.tail _ (.tail _ (.tail _ (.tail _ (.tail _ (.tail _ (.tail _ (.tail _ (.tail _ (.tail _ (.head _))))))))))), trivial⟩)
  refine' time_home (ap := x.ap) (dP := x.dP) (ak := x.ak) (ah := x.ah) (dh := x.dh) (ahc := x.ahc) (aw := x.aw) (dw := x.dw) (awc := c.awc) (eP := c.eP) (eh := x.eh) (ew := c.ew) (nP := c.nP) (nk := x.nk) (nh := x.nh) (nhc := x.nhc) (nw := c.nw) (nwc := c.nwc) (vs := c.vs) (bs := c.bs) B F X T hk (newsSub N₁ S1) (P.news (newsApp N₁ N₂)) P.apart (cf.aP) (cf.aH) (cf.aW) (cf.hv) (cf.known) (cf.hchal) (cf.wchal) (cf.hdead) (hst) (p2) (p3) (by omega) (by omega) ?rt
  all_goals (try first | exact Value.none | exact (0 : Nat) | exact (0 : Int) | exact (#[] : Array UInt8))
  rintro q7 h1 tk1 hl2 F1 N1 R1
  exact ret q7 h1 tk1 F1 (newsSub (newsApp N1 R1) ⟨.tail _ (.tail _ (.tail _ (.tail _ (.tail _ (.tail _ (.tail _ (.tail _ (.tail _ (.head _))))))))), .tail _ (.tail _ (.tail _ (.tail _ (.tail _ (.tail _ (.tail _ (.tail _ (.tail _ (.tail _ (.head _)))))))))), .tail _ (.tail _ (.tail _ (.tail _ (.tail _ (.tail _ (.tail _ (.tail _ (.tail _ (.tail _ (.tail _ (.head _))))))))))), .tail _ (.tail _ (.tail _ (.tail _ (.tail _ (.tail _ (.tail _ (.tail _ (.tail _ (.tail _ (.tail _ (.tail _ (.head _)))))))))))), .tail _ (.tail _ (.tail _ (.tail _ (.tail _ (.tail _ (.tail _ (.tail _ (.tail _ (.tail _ (.tail _ (.tail _ (.tail _ (.head _))))))))))))), .tail _ (.tail _ (.tail _ (.tail _ (.tail _ (.tail _ (.tail _ (.tail _ (.tail _ (.tail _ (.tail _ (.tail _ (.tail _ (.tail _ (.head _)))))))))))))), .tail _ (.tail _ (.tail _ (.tail _ (.tail _ (.tail _ (.tail _ (.tail _ (.tail _ (.tail _ (.tail _ (.tail _ (.tail _ (.tail _ (.tail _ (.head _))))))))))))))), .tail _ (.tail _ (.tail _ (.tail _ (.tail _ (.tail _ (.tail _ (.tail _ (.tail _ (.tail _ (.tail _ (.tail _ (.tail _ (.tail _ (.tail _ (.tail _ (.head _)))))))))))))))), .tail _ (.tail _ (.tail _ (.tail _ (.tail _ (.tail _ (.tail _ (.tail _ (.tail _ (.tail _ (.tail _ (.tail _ (.tail _ (.tail _ (.tail _ (.tail _ (.tail _ (.head _))))))))))))))))), .head _, .tail _ (.head _), .tail _ (.tail _ (.head _)), .tail _ (.tail _ (.tail _ (.head _))), .tail _ (.tail _ (.tail _ (.tail _ (.head _)))), .tail _ (.tail _ (.tail _ (.tail _ (.tail _ (.head _))))), .tail _ (.tail _ (.tail _ (.tail _ (.tail _ (.tail _ (.head _)))))), .tail _ (.tail _ (.tail _ (.tail _ (.tail _ (.tail _ (.tail _ (.head _))))))), .tail _ (.tail _ (.tail _ (.tail _ (.tail _ (.tail _ (.tail _ (.tail _ (.head _)))))))), .tail _ (.tail _ (.tail _ (.tail _ (.tail _ (.tail _ (.tail _ (.tail _ (.tail _ (.tail _ (.tail _ (.tail _ (.tail _ (.tail _ (.tail _ (.tail _ (.tail _ (.tail _ (.head _)))))))))))))))))), .tail _ (.tail _ (.tail _ (.tail _ (.tail _ (.tail _ (.tail _ (.tail _ (.tail _ (.tail _ (.tail _ (.tail _ (.tail _ (.tail _ (.tail _ (.tail _ (.tail _ (.tail _ (.tail _ (.head _))))))))))))))))))), .tail _ (.tail _ (.tail _ (.tail _ (.tail _ (.tail _ (.tail _ (.tail _ (.tail _ (.tail _ (.tail _ (.tail _ (.tail _ (.tail _ (.tail _ (.tail _ (.tail _ (.tail _ (.tail _ (.tail _ (.head _)))))))))))))))))))), trivial⟩) (fun q hq => R1 q (List.mem_append_right _ hq))
set_option maxHeartbeats 1000000 in
theorem op_none_tried {w : World} {p : Program} {loose : List Str} {mean : ExcName → Option Value} {mg mb : Str → Option Value} {dp un : Nat} {gd : Option (List Code)} {cn : Str} {cs : Scope} {a : Addr} {ccd : Value} {cl : List (Str × Addr)} {outer : List Env} {A₀ : Around} {base h₀ : Heap} {L : Addr} {m : Str → Option Value} {s : Shared} {Q E : Value → Shared → Prop} {rest : List (Addr × Obj)} {x : Fx} {c : Ch} {n : Nat} {wait : Int} {zz : Addr} {oz : Obj} {now : Int} {tnow : Tok}
    (B : Below A₀ base outer h₀) (F : Fr h₀ L s.heap m) (X : (hd.heap_1 w.params).In h₀) (T : Top p loose mean mg mb h₀) (hk : cs.kind = .function)
    (N₁ : News h₀ L s.heap ((zz, oz) :: CL x c)) (N₂ : News h₀ L s.heap rest) (apart : ∀ q ∈ rest, q.1 ∉ ((zz, oz) :: CL x c).map (·.1))
    (cf : CF w wait x c n) (ph : PhF wait x c n (.tried false)) (hz : ∀ y ∈ CL x c, y.1 ≠ zz) (hzz : @LT.lt Nat _ c.awc zz) (CH : CodeHd h₀ 473 469) (hdp : dp + 10 < recursionLimit) (hun : un + 300 < cLine)
    (ret : ∀ (al : Addr) (n3 : Nat) (c1 : Ch) (h1 : Heap) (tk1 : Nat), OffAll ((al, listOf #[] n3) :: (zz, oz) :: CL x c1) rest → CF w wait x c1 (n) → PhF wait x c1 (n) (.tried false) → (@LT.lt Nat _ zz al) → (c1.awc = c.awc) → (∀ y ∈ CL x c1, y.1 ≠ al) → (∀ y ∈ CL x c1, y.1 ≠ zz) → Fr h₀ L h1 m → News h₀ L h1 ((al, listOf #[] n3) :: (zz, oz) :: CL x c1) → News h₀ L h1 rest → Q (.ref al) { s with heap := h1, toks := tk1 }) :
    wpAny (model PySem.Challenge.rw_pf0276_01.row.toRowW.prog w) (ktrTop dp un gd cn cs L a ccd cl outer) (call (.ref 26) [.ref x.ac, .int now tnow]) Q E s := by
  have nd : (((zz, oz) :: CL x c).map (·.1)).Nodup := cons_nd (cl_nd cf) hz
  have cfn := cf.hn
  obtain ⟨tch, hchg⟩ := cf.challenged
  obtain ⟨th, hadr⟩ := cf.haddress
  obtain ⟨thS, hst⟩ := cf.hstate
  obtain ⟨tw, wadr⟩ := cf.waddress
  obtain ⟨⟨ts, p1⟩, p2, ⟨td, p3⟩, p4, p5, p6, p7⟩ := ph
  have S1 : SubL ([(x.ac, instObj 449 x.dc), (x.dc, dictOf c.ec c.nc), (x.ap, instObj 282 x.dP), (x.dP, dictOf c.eP c.nP), (x.aw, instObj 167 x.dw), (x.dw, dictOf c.ew c.nw), (c.aa, listOf #[] c.na), (zz, oz)] : List (Addr × Obj)) ((zz, oz) :: CL x c) := ⟨.tail _ (.head _), .tail _ (.tail _ (.head _)), .tail _ (.tail _ (.tail _ (.tail _ (.tail _ (.tail _ (.tail _ (.tail _ (.tail _ (.tail _ (.head _)))))))))), .tail _ (.tail _ (.tail _ (.tail _ (.tail _ (.tail _ (.tail _ (.tail _ (.tail _ (.tail _ (.tail _ (.head _))))))))))), .tail _ (.tail _ (.tail _ (.tail _ (.tail _ (.tail _ (.tail _ (.tail _ (.tail _ (.tail _ (.tail _ (.tail _ (.tail _ (.tail _ (.tail _ (.tail _ (.head _)))))))))))))))), .tail _ (.tail _ (.tail _ (.tail _ (.tail _ (.tail _ (.tail _ (.tail _ (.tail _ (.tail _ (.tail _ (.tail _ (.tail _ (.tail _ (.tail _ (.tail _ (.tail _ (.head _))))))))))))))))), .tail _ (.tail _ (.tail _ (.tail _ (.tail _ (.tail _ (.tail _ (.tail _ (.tail _ (.tail _ (.tail _ (.tail _ (.tail _ (.tail _ (.tail _ (.tail _ (.tail _ (.tail _ (.tail _ (.head _))))))))))))))))))), .head _, trivial⟩
  have P : Part (((zz, oz) :: CL x c) ++ rest) ([(x.ac, instObj 449 x.dc), (x.dc, dictOf c.ec c.nc), (x.ap, instObj 282 x.dP), (x.dP, dictOf c.eP c.nP), (x.aw, instObj 167 x.dw), (x.dw, dictOf c.ew c.nw), (c.aa, listOf #[] c.na), (zz, oz)] : List (Addr × Obj)) (([(x.fpw, kla_obj x.ln1 x.qn1 x.pa1 x.b1 x.sc1 x.cl1 x.pm1 x.c1 x.ct1), (x.c1, x.oc1), (x.acw, x.ocw), (x.fch, kla_obj x.ln2 x.qn2 x.pa2 x.b2 x.sc2 x.cl2 x.pm2 x.c2 x.ct2), (x.c2, x.oc2), (x.as_, instObj 449 x.ds), (x.ds, dictOf x.es x.ns), (x.ak, listOf #[.ref x.ah, .ref x.aw] x.nk), (x.ah, instObj 167 x.dh), (x.dh, dictOf x.eh x.nh), (x.ahc, listOf #[] x.nhc), (c.awc, listOf c.vs.toArray c.nwc), (x.ao, listOf #[] x.no), (x.pt, tabObj x.ps)] : List (Addr × Obj)) ++ rest) := Part.mask [true, true, true, false, false, false, false, false, false, false, true, true, false, false, false, false, true, true, false, true, false, false] nd apart (SubL.mem (l := [(x.ac, instObj 449 x.dc), (x.dc, dictOf c.ec c.nc), (x.ap, instObj 282 x.dP), (x.dP, dictOf c.eP c.nP), (x.aw, instObj 167 x.dw), (x.dw, dictOf c.ew c.nw), (c.aa, listOf #[] c.na), (zz, oz)]) ⟨.tail _ (.head _), .tail _ (.tail _ (.head _)), .tail _ (.tail _ (.tail _ (.head _))), .tail _ (.tail _ (.tail _ (.tail _ (.head _)))), .tail _ (.tail _ (.tail _ (.tail _ (.tail _ (.head _))))), .tail _ (.tail _ (.tail _ (.tail _ (.tail _ (.tail _ (.head _)))))), .tail _ (.tail _ (.tail _ (.tail _ (.tail _ (.tail _ (.tail _ (.head _))))))), .head _, trivial⟩) (SubL.mem (l := [(x.fpw, kla_obj x.ln1 x.qn1 x.pa1 x.b1 x.sc1 x.cl1 x.pm1 x.c1 x.ct1), (x.c1, x.oc1), (x.acw, x.ocw), (x.fch, kla_obj x.ln2 x.qn2 x.pa2 x.b2 x.sc2 x.cl2 x.pm2 x.c2 x.ct2), (x.c2, x.oc2), (x.as_, instObj 449 x.ds), (x.ds, dictOf x.es x.ns), (x.ak, listOf #[.ref x.ah, .ref x.aw] x.nk), (x.ah, instObj 167 x.dh), (x.dh, dictOf x.eh x.nh), (x.ahc, listOf #[] x.nhc), (c.awc, listOf c.vs.toArray c.nwc), (x.ao, listOf #[] x.no), (x.pt, tabObj x.ps)]) ⟨.head _, .tail _ (.head _), .tail _ (.tail _ (.head _)), .tail _ (.tail _ (.tail _ (.head _))), .tail _ (.tail _ (.tail _ (.tail _ (.head _)))), .tail _ (.tail _ (.tail _ (.tail _ (.tail _ (.head _))))), .tail _ (.tail _ (.tail _ (.tail _ (.tail _ (.tail _ (.head _)))))), .tail _ (.tail _ (.tail _ (.tail _ (.tail _ (.tail _ (.tail _ (.head _))))))), .tail _ (.tail _ (.tail _ (.tail _ (.tail _ (.tail _ (.tail _ (.tail _ (.head _)))))))), .tail _ (.tail _ (.tail _ (.tail _ (.tail _ (.tail _ (.tail _ (.tail _ (.tail _ (.head _))))))))), .tail _ (.tail _ (.tail _ (.tail _ (.tail _ (.tail _ (.tail _ (.tail _ (.tail _ (.tail _ (.head _)))))))))), .tail _ (.tail _ (.tail _ (.tail _ (.tail _ (.tail _ (.tail _ (.tail _ (.tail _ (.tail _ (.tail _ (.head _))))))))))), .tail _ (.tail _ (.tail _ (.tail _ (.tail _ (.tail _ (.tail _ (.tail _ (.tail _ (.tail _ (.tail _ (.tail _ (.head _)))))))))))), .tail _ (.tail _ (.tail _ (.tail _ (.tail _ (.tail _ (.tail _ (.tail _ (.tail _ (.tail _ (.tail _ (.tail _ (.tail _ (.head _))))))))))))), trivial⟩)
  refine' frames_tried_none (ap := x.ap) (dP := x.dP) (ak := x.ak) (ah := x.ah) (dh := x.dh) (ahc := x.ahc) (aw := x.aw) (dw := x.dw) (awc := c.awc) (eP := c.eP) (eh := x.eh) (ew := c.ew) (nP := c.nP) (nk := x.nk) (nh := x.nh) (nhc := x.nhc) (nw := c.nw) (nwc := c.nwc) (vs := c.vs) (bs := c.bs) (ac := x.ac) (dc := x.dc) (ec := c.ec) (nc := c.nc) (fpw := x.fpw) (fch := x.fch) (as_ := x.as_) (ds := x.ds) (acw := x.acw) (aa := c.aa) (es := x.es) (ns := x.ns) (na := c.na) (ln1 := x.ln1) (ln2 := x.ln2) (qn1 := x.qn1) (qn2 := x.qn2) (pa1 := x.pa1) (pa2 := x.pa2) (b1 := x.b1) (b2 := x.b2) (sc1 := x.sc1) (sc2 := x.sc2) (cl1 := x.cl1) (cl2 := x.cl2) (pm1 := x.pm1) (pm2 := x.pm2) (ct1 := x.ct1) (ct2 := x.ct2) (c1 := x.c1) (c2 := x.c2) (oc1 := x.oc1) (oc2 := x.oc2) (ocw := x.ocw) (n := (n : Int)) (bw := chal n) B F X T hk (newsSub N₁ S1) (P.news (newsApp N₁ N₂)) P.apart (cf.aP) (cf.aH) (cf.aW) (cf.hv) (cf.known) (cf.hchal) (cf.wchal) (cf.aC) ((by omega)) (cf.aS) (cf.paths) (cf.shake) (hchg) (cf.probe) (cf.choose) (cf.complete) (cf.answers) (cf.hPr) (fun t1 t2 t3 => cf.hCh n t1 t2 t3 (by omega)) (CH) (cf.mwc) (hadr) (wadr) (fo_ord cf) (haa4 cf) (hzz) (p5) (p1) (p2) (by omega) (by omega) ?rt
  all_goals (try first | exact Value.none | exact (0 : Nat) | exact (0 : Int) | exact (#[] : Array UInt8))
  rintro q1 an al nP2 n2 n3 h1 tk1 hl2 ⟨f0, f1, f2⟩ F1 N1 R1
  have hla : @LT.lt Nat _ c.awc an := by omega
  have hwa : c.awc ≠ an := Nat.ne_of_lt hla
  have AeP1 : AbsD (putL "answers" (PyData.keyHash w.params "answers") (.str "answers" q1) (.ref an) c.eP) (20) := AbsD.put_old cf.aP (cf.answers) _ _ _
  have cf1 : CF w wait x { c with aa := an, na := n2, eP := (putL "answers" (PyData.keyHash w.params "answers") (.str "answers" q1) (.ref an) c.eP), nP := nP2 } (n) := { aC := cf.aC, aS := cf.aS, aP := AeP1, aH := cf.aH, aW := cf.aW, hv := cf.hv, hn := cf.hn, hvl := cf.hvl, paths := cf.paths, shake := cf.shake, challenged := cf.challenged, probe := cf.probe, choose := cf.choose, owed := cf.owed, complete := cf.complete, known := gOther cf.aP (by decide) (cf.known), answers := getL_same' _ cf.aP _ _ _, mwc := gOther cf.aP (by decide) (cf.mwc), mol := gOther cf.aP (by decide) (cf.mol), mtr := gOther cf.aP (by decide) (cf.mtr), mnt := gOther cf.aP (by decide) (cf.mnt), mot := gOther cf.aP (by decide) (cf.mot), haddress := cf.haddress, hstate := cf.hstate, hfree := cf.hfree, hchal := cf.hchal, hdead := cf.hdead, his := cf.his, waddress := cf.waddress, wchal := cf.wchal, wprove := cf.wprove, wfail := cf.wfail, wchallenge := cf.wchallenge, wis := cf.wis, hPr := cf.hPr, hCh := cf.hCh, ho := cf.ho, haa := haa_of cf hla hwa }
  have ph1 : PhF wait x { c with aa := an, na := n2, eP := (putL "answers" (PyData.keyHash w.params "answers") (.str "answers" q1) (.ref an) c.eP), nP := nP2 } (n) (.tried false) := ⟨⟨_, p1⟩, p2, ⟨_, p3⟩, p4, gOther cf.aP (by decide) (p5), gOther cf.aP (by decide) (p6), p7⟩
  have apartC : ∀ q ∈ rest, q.1 ∉ (CL x c).map (·.1) := apart_tl (apart)
  exact ret al n3 { c with aa := an, na := n2, eP := (putL "answers" (PyData.keyHash w.params "answers") (.str "answers" q1) (.ref an) c.eP), nP := nP2 } h1 tk1 (OffAll.cons (fun q hq => hl2 _ (.tail _ (.tail _ (.tail _ (.tail _ (.tail _ (.tail _ (.tail _ (.head _)))))))) q (List.mem_append_right _ hq)) (OffAll.cons (fun q hq => hl2 _ (.tail _ (.tail _ (.tail _ (.tail _ (.tail _ (.tail _ (.tail _ (.tail _ (.head _))))))))) q (List.mem_append_right _ hq)) (cl_off apartC (fun q hq => apart_ne apartC (y := (c.awc, listOf c.vs.toArray c.nwc)) (.tail _ (.tail _ (.tail _ (.tail _ (.tail _ (.tail _ (.tail _ (.tail _ (.tail _ (.tail _ (.tail _ (.tail _ (.tail _ (.tail _ (.tail _ (.tail _ (.tail _ (.head _)))))))))))))))))) q hq) (fun q hq => hl2 _ (.tail _ (.tail _ (.tail _ (.tail _ (.tail _ (.tail _ (.head _))))))) q (List.mem_append_right _ hq))))) cf1 ph1 (f1) (rfl) (cl_ne (c' := { c with aa := an, na := n2, eP := (putL "answers" (PyData.keyHash w.params "answers") (.str "answers" q1) (.ref an) c.eP), nP := nP2 }) cf f0 (Nat.ne_of_lt (by (try dsimp only); omega)) (Nat.ne_of_gt f2)) (cl_ne (c' := { c with aa := an, na := n2, eP := (putL "answers" (PyData.keyHash w.params "answers") (.str "answers" q1) (.ref an) c.eP), nP := nP2 }) cf (by have := po_ord cf; omega) (Nat.ne_of_lt hzz) (Nat.ne_of_gt (by (try dsimp only); omega))) F1 (newsSub (newsApp N1 R1) ⟨.tail _ (.tail _ (.tail _ (.tail _ (.tail _ (.tail _ (.tail _ (.head _))))))), .tail _ (.tail _ (.tail _ (.tail _ (.tail _ (.tail _ (.tail _ (.tail _ (.head _)))))))), .head _, .tail _ (.head _), .tail _ (.tail _ (.tail _ (.tail _ (.tail _ (.tail _ (.tail _ (.tail _ (.tail _ (.head _))))))))), .tail _ (.tail _ (.tail _ (.tail _ (.tail _ (.tail _ (.tail _ (.tail _ (.tail _ (.tail _ (.head _)))))))))), .tail _ (.tail _ (.tail _ (.tail _ (.tail _ (.tail _ (.tail _ (.tail _ (.tail _ (.tail _ (.tail _ (.head _))))))))))), .tail _ (.tail _ (.tail _ (.tail _ (.tail _ (.tail _ (.tail _ (.tail _ (.tail _ (.tail _ (.tail _ (.tail _ (.head _)))))))))))), .tail _ (.tail _ (.tail _ (.tail _ (.tail _ (.tail _ (.tail _ (.tail _ (.tail _ (.tail _ (.tail _ (.tail _ (.tail _ (.head _))))))))))))), .tail _ (.tail _ (.tail _ (.tail _ (.tail _ (.tail _ (.tail _ (.tail _ (.tail _ (.tail _ (.tail _ (.tail _ (.tail _ (.tail _ (.head _)))))))))))))), .tail _ (.tail _ (.tail _ (.tail _ (.tail _ (.tail _ (.tail _ (.tail _ (.tail _ (.tail _ (.tail _ (.tail _ (.tail _ (.tail _ (.tail _ (.head _))))))))))))))), .tail _ (.tail _ (.head _)), .tail _ (.tail _ (.tail _ (.head _))), .tail _ (.tail _ (.tail _ (.tail _ (.tail _ (.tail _ (.tail _ (.tail _ (.tail _ (.tail _ (.tail _ (.tail _ (.tail _ (.tail _ (.tail _ (.tail _ (.head _)))))))))))))))), .tail _ (.tail _ (.tail _ (.tail _ (.tail _ (.tail _ (.tail _ (.tail _ (.tail _ (.tail _ (.tail _ (.tail _ (.tail _ (.tail _ (.tail _ (.tail _ (.tail _ (.head _))))))))))))))))), .tail _ (.tail _ (.tail _ (.tail _ (.tail _ (.tail _ (.tail _ (.tail _ (.tail _ (.tail _ (.tail _ (.tail _ (.tail _ (.tail _ (.tail _ (.tail _ (.tail _ (.tail _ (.head _)))))))))))))))))), .tail _ (.tail _ (.tail _ (.tail _ (.tail _ (.tail _ (.tail _ (.tail _ (.tail _ (.tail _ (.tail _ (.tail _ (.tail _ (.tail _ (.tail _ (.tail _ (.tail _ (.tail _ (.tail _ (.head _))))))))))))))))))), .tail _ (.tail _ (.tail _ (.tail _ (.head _)))), .tail _ (.tail _ (.tail _ (.tail _ (.tail _ (.head _))))), .tail _ (.tail _ (.tail _ (.tail _ (.tail _ (.tail _ (.tail _ (.tail _ (.tail _ (.tail _ (.tail _ (.tail _ (.tail _ (.tail _ (.tail _ (.tail _ (.tail _ (.tail _ (.tail _ (.tail _ (.head _)))))))))))))))))))), .tail _ (.tail _ (.tail _ (.tail _ (.tail _ (.tail _ (.head _)))))), .tail _ (.tail _ (.tail _ (.tail _ (.tail _ (.tail _ (.tail _ (.tail _ (.tail _ (.tail _ (.tail _ (.tail _ (.tail _ (.tail _ (.tail _ (.tail _ (.tail _ (.tail _ (.tail _ (.tail _ (.tail _ (.head _))))))))))))))))))))), .tail _ (.tail _ (.tail _ (.tail _ (.tail _ (.tail _ (.tail _ (.tail _ (.tail _ (.tail _ (.tail _ (.tail _ (.tail _ (.tail _ (.tail _ (.tail _ (.tail _ (.tail _ (.tail _ (.tail _ (.tail _ (.tail _ (.head _)))))))))))))))))))))), trivial⟩) (fun q hq => R1 q (List.mem_append_right _ hq))
set_option maxHeartbeats 1000000 in
theorem op_none_proven {w : World} {p : Program} {loose : List Str} {mean : ExcName → Option Value} {mg mb : Str → Option Value} {dp un : Nat} {gd : Option (List Code)} {cn : Str} {cs : Scope} {a : Addr} {ccd : Value} {cl : List (Str × Addr)} {outer : List Env} {A₀ : Around} {base h₀ : Heap} {L : Addr} {m : Str → Option Value} {s : Shared} {Q E : Value → Shared → Prop} {rest : List (Addr × Obj)} {x : Fx} {c : Ch} {n : Nat} {wait : Int} {zz : Addr} {oz : Obj} {now : Int} {tnow : Tok}
    (B : Below A₀ base outer h₀) (F : Fr h₀ L s.heap m) (X : (hd.heap_1 w.params).In h₀) (T : Top p loose mean mg mb h₀) (hk : cs.kind = .function)
    (N₁ : News h₀ L s.heap ((zz, oz) :: CL x c)) (N₂ : News h₀ L s.heap rest) (apart : ∀ q ∈ rest, q.1 ∉ ((zz, oz) :: CL x c).map (·.1))
    (cf : CF w wait x c n) (ph : PhF wait x c n (.proven)) (hz : ∀ y ∈ CL x c, y.1 ≠ zz) (hzz : @LT.lt Nat _ c.awc zz) (CH : CodeHd h₀ 473 469) (hdp : dp + 10 < recursionLimit) (hun : un + 300 < cLine)
    (ret : ∀ (al : Addr) (n3 : Nat) (c1 : Ch) (h1 : Heap) (tk1 : Nat), OffAll ((al, listOf #[] n3) :: (zz, oz) :: CL x c1) rest → CF w wait x c1 (n) → PhF wait x c1 (n) (.proven) → (@LT.lt Nat _ zz al) → (c1.awc = c.awc) → (∀ y ∈ CL x c1, y.1 ≠ al) → (∀ y ∈ CL x c1, y.1 ≠ zz) → Fr h₀ L h1 m → News h₀ L h1 ((al, listOf #[] n3) :: (zz, oz) :: CL x c1) → News h₀ L h1 rest → Q (.ref al) { s with heap := h1, toks := tk1 }) :
    wpAny (model PySem.Challenge.rw_pf0276_01.row.toRowW.prog w) (ktrTop dp un gd cn cs L a ccd cl outer) (call (.ref 26) [.ref x.ac, .int now tnow]) Q E s := by
  have nd : (((zz, oz) :: CL x c).map (·.1)).Nodup := cons_nd (cl_nd cf) hz
  have cfn := cf.hn
  obtain ⟨tch, hchg⟩ := cf.challenged
  obtain ⟨th, hadr⟩ := cf.haddress
  obtain ⟨thS, hst⟩ := cf.hstate
  obtain ⟨tw, wadr⟩ := cf.waddress
  obtain ⟨⟨ts, p1⟩, p2, p3, p4⟩ := ph
  have S1 : SubL ([(x.ac, instObj 449 x.dc), (x.dc, dictOf c.ec c.nc), (x.ap, instObj 282 x.dP), (x.dP, dictOf c.eP c.nP), (x.aw, instObj 167 x.dw), (x.dw, dictOf c.ew c.nw), (c.aa, listOf #[] c.na), (zz, oz)] : List (Addr × Obj)) ((zz, oz) :: CL x c) := ⟨.tail _ (.head _), .tail _ (.tail _ (.head _)), .tail _ (.tail _ (.tail _ (.tail _ (.tail _ (.tail _ (.tail _ (.tail _ (.tail _ (.tail _ (.head _)))))))))), .tail _ (.tail _ (.tail _ (.tail _ (.tail _ (.tail _ (.tail _ (.tail _ (.tail _ (.tail _ (.tail _ (.head _))))))))))), .tail _ (.tail _ (.tail _ (.tail _ (.tail _ (.tail _ (.tail _ (.tail _ (.tail _ (.tail _ (.tail _ (.tail _ (.tail _ (.tail _ (.tail _ (.tail _ (.head _)))))))))))))))), .tail _ (.tail _ (.tail _ (.tail _ (.tail _ (.tail _ (.tail _ (.tail _ (.tail _ (.tail _ (.tail _ (.tail _ (.tail _ (.tail _ (.tail _ (.tail _ (.tail _ (.head _))))))))))))))))), .tail _ (.tail _ (.tail _ (.tail _ (.tail _ (.tail _ (.tail _ (.tail _ (.tail _ (.tail _ (.tail _ (.tail _ (.tail _ (.tail _ (.tail _ (.tail _ (.tail _ (.tail _ (.tail _ (.head _))))))))))))))))))), .head _, trivial⟩
  have P : Part (((zz, oz) :: CL x c) ++ rest) ([(x.ac, instObj 449 x.dc), (x.dc, dictOf c.ec c.nc), (x.ap, instObj 282 x.dP), (x.dP, dictOf c.eP c.nP), (x.aw, instObj 167 x.dw), (x.dw, dictOf c.ew c.nw), (c.aa, listOf #[] c.na), (zz, oz)] : List (Addr × Obj)) (([(x.fpw, kla_obj x.ln1 x.qn1 x.pa1 x.b1 x.sc1 x.cl1 x.pm1 x.c1 x.ct1), (x.c1, x.oc1), (x.acw, x.ocw), (x.fch, kla_obj x.ln2 x.qn2 x.pa2 x.b2 x.sc2 x.cl2 x.pm2 x.c2 x.ct2), (x.c2, x.oc2), (x.as_, instObj 449 x.ds), (x.ds, dictOf x.es x.ns), (x.ak, listOf #[.ref x.ah, .ref x.aw] x.nk), (x.ah, instObj 167 x.dh), (x.dh, dictOf x.eh x.nh), (x.ahc, listOf #[] x.nhc), (c.awc, listOf c.vs.toArray c.nwc), (x.ao, listOf #[] x.no), (x.pt, tabObj x.ps)] : List (Addr × Obj)) ++ rest) := Part.mask [true, true, true, false, false, false, false, false, false, false, true, true, false, false, false, false, true, true, false, true, false, false] nd apart (SubL.mem (l := [(x.ac, instObj 449 x.dc), (x.dc, dictOf c.ec c.nc), (x.ap, instObj 282 x.dP), (x.dP, dictOf c.eP c.nP), (x.aw, instObj 167 x.dw), (x.dw, dictOf c.ew c.nw), (c.aa, listOf #[] c.na), (zz, oz)]) ⟨.tail _ (.head _), .tail _ (.tail _ (.head _)), .tail _ (.tail _ (.tail _ (.head _))), .tail _ (.tail _ (.tail _ (.tail _ (.head _)))), .tail _ (.tail _ (.tail _ (.tail _ (.tail _ (.head _))))), .tail _ (.tail _ (.tail _ (.tail _ (.tail _ (.tail _ (.head _)))))), .tail _ (.tail _ (.tail _ (.tail _ (.tail _ (.tail _ (.tail _ (.head _))))))), .head _, trivial⟩) (SubL.mem (l := [(x.fpw, kla_obj x.ln1 x.qn1 x.pa1 x.b1 x.sc1 x.cl1 x.pm1 x.c1 x.ct1), (x.c1, x.oc1), (x.acw, x.ocw), (x.fch, kla_obj x.ln2 x.qn2 x.pa2 x.b2 x.sc2 x.cl2 x.pm2 x.c2 x.ct2), (x.c2, x.oc2), (x.as_, instObj 449 x.ds), (x.ds, dictOf x.es x.ns), (x.ak, listOf #[.ref x.ah, .ref x.aw] x.nk), (x.ah, instObj 167 x.dh), (x.dh, dictOf x.eh x.nh), (x.ahc, listOf #[] x.nhc), (c.awc, listOf c.vs.toArray c.nwc), (x.ao, listOf #[] x.no), (x.pt, tabObj x.ps)]) ⟨.head _, .tail _ (.head _), .tail _ (.tail _ (.head _)), .tail _ (.tail _ (.tail _ (.head _))), .tail _ (.tail _ (.tail _ (.tail _ (.head _)))), .tail _ (.tail _ (.tail _ (.tail _ (.tail _ (.head _))))), .tail _ (.tail _ (.tail _ (.tail _ (.tail _ (.tail _ (.head _)))))), .tail _ (.tail _ (.tail _ (.tail _ (.tail _ (.tail _ (.tail _ (.head _))))))), .tail _ (.tail _ (.tail _ (.tail _ (.tail _ (.tail _ (.tail _ (.tail _ (.head _)))))))), .tail _ (.tail _ (.tail _ (.tail _ (.tail _ (.tail _ (.tail _ (.tail _ (.tail _ (.head _))))))))), .tail _ (.tail _ (.tail _ (.tail _ (.tail _ (.tail _ (.tail _ (.tail _ (.tail _ (.tail _ (.head _)))))))))), .tail _ (.tail _ (.tail _ (.tail _ (.tail _ (.tail _ (.tail _ (.tail _ (.tail _ (.tail _ (.tail _ (.head _))))))))))), .tail _ (.tail _ (.tail _ (.tail _ (.tail _ (.tail _ (.tail _ (.tail _ (.tail _ (.tail _ (.tail _ (.tail _ (.head _)))))))))))), .tail _ (.tail _ (.tail _ (.tail _ (.tail _ (.tail _ (.tail _ (.tail _ (.tail _ (.tail _ (.tail _ (.tail _ (.tail _ (.head _))))))))))))), trivial⟩)
  refine' frames_proven (ap := x.ap) (dP := x.dP) (ak := x.ak) (ah := x.ah) (dh := x.dh) (ahc := x.ahc) (aw := x.aw) (dw := x.dw) (awc := c.awc) (eP := c.eP) (eh := x.eh) (ew := c.ew) (nP := c.nP) (nk := x.nk) (nh := x.nh) (nhc := x.nhc) (nw := c.nw) (nwc := c.nwc) (vs := c.vs) (bs := c.bs) (ac := x.ac) (dc := x.dc) (ec := c.ec) (nc := c.nc) (fpw := x.fpw) (fch := x.fch) (as_ := x.as_) (ds := x.ds) (acw := x.acw) (aa := c.aa) (es := x.es) (ns := x.ns) (na := c.na) (ln1 := x.ln1) (ln2 := x.ln2) (qn1 := x.qn1) (qn2 := x.qn2) (pa1 := x.pa1) (pa2 := x.pa2) (b1 := x.b1) (b2 := x.b2) (sc1 := x.sc1) (sc2 := x.sc2) (cl1 := x.cl1) (cl2 := x.cl2) (pm1 := x.pm1) (pm2 := x.pm2) (ct1 := x.ct1) (ct2 := x.ct2) (c1 := x.c1) (c2 := x.c2) (oc1 := x.oc1) (oc2 := x.oc2) (ocw := x.ocw) (n := (n : Int)) (bw := chal n) B F X T hk (newsSub N₁ S1) (P.news (newsApp N₁ N₂)) P.apart (cf.aP) (cf.aH) (cf.aW) (cf.hv) (cf.known) (cf.hchal) (cf.wchal) (cf.aC) ((by omega)) (cf.aS) (cf.paths) (cf.shake) (hchg) (cf.probe) (cf.choose) (cf.complete) (cf.answers) (cf.hPr) (fun t1 t2 t3 => cf.hCh n t1 t2 t3 (by omega)) (CH) (cf.mwc) (hadr) (wadr) (fo_ord cf) (haa4 cf) (hzz) (p3) (p1) (by omega) (by omega) ?rt
  all_goals (try first | exact Value.none | exact (0 : Nat) | exact (0 : Int) | exact (#[] : Array UInt8))
  rintro q1 an al nP2 n2 n3 h1 tk1 hl2 ⟨f0, f1, f2⟩ F1 N1 R1
  have hla : @LT.lt Nat _ c.awc an := by omega
  have hwa : c.awc ≠ an := Nat.ne_of_lt hla
  have AeP1 : AbsD (putL "answers" (PyData.keyHash w.params "answers") (.str "answers" q1) (.ref an) c.eP) (20) := AbsD.put_old cf.aP (cf.answers) _ _ _
  have cf1 : CF w wait x { c with aa := an, na := n2, eP := (putL "answers" (PyData.keyHash w.params "answers") (.str "answers" q1) (.ref an) c.eP), nP := nP2 } (n) := { aC := cf.aC, aS := cf.aS, aP := AeP1, aH := cf.aH, aW := cf.aW, hv := cf.hv, hn := cf.hn, hvl := cf.hvl, paths := cf.paths, shake := cf.shake, challenged := cf.challenged, probe := cf.probe, choose := cf.choose, owed := cf.owed, complete := cf.complete, known := gOther cf.aP (by decide) (cf.known), answers := getL_same' _ cf.aP _ _ _, mwc := gOther cf.aP (by decide) (cf.mwc), mol := gOther cf.aP (by decide) (cf.mol), mtr := gOther cf.aP (by decide) (cf.mtr), mnt := gOther cf.aP (by decide) (cf.mnt), mot := gOther cf.aP (by decide) (cf.mot), haddress := cf.haddress, hstate := cf.hstate, hfree := cf.hfree, hchal := cf.hchal, hdead := cf.hdead, his := cf.his, waddress := cf.waddress, wchal := cf.wchal, wprove := cf.wprove, wfail := cf.wfail, wchallenge := cf.wchallenge, wis := cf.wis, hPr := cf.hPr, hCh := cf.hCh, ho := cf.ho, haa := haa_of cf hla hwa }
  have ph1 : PhF wait x { c with aa := an, na := n2, eP := (putL "answers" (PyData.keyHash w.params "answers") (.str "answers" q1) (.ref an) c.eP), nP := nP2 } (n) (.proven) := ⟨⟨_, p1⟩, p2, gOther cf.aP (by decide) (p3), p4⟩
  have apartC : ∀ q ∈ rest, q.1 ∉ (CL x c).map (·.1) := apart_tl (apart)
  exact ret al n3 { c with aa := an, na := n2, eP := (putL "answers" (PyData.keyHash w.params "answers") (.str "answers" q1) (.ref an) c.eP), nP := nP2 } h1 tk1 (OffAll.cons (fun q hq => hl2 _ (.tail _ (.tail _ (.tail _ (.tail _ (.tail _ (.tail _ (.tail _ (.head _)))))))) q (List.mem_append_right _ hq)) (OffAll.cons (fun q hq => hl2 _ (.tail _ (.tail _ (.tail _ (.tail _ (.tail _ (.tail _ (.tail _ (.tail _ (.head _))))))))) q (List.mem_append_right _ hq)) (cl_off apartC (fun q hq => apart_ne apartC (y := (c.awc, listOf c.vs.toArray c.nwc)) (.tail _ (.tail _ (.tail _ (.tail _ (.tail _ (.tail _ (.tail _ (.tail _ (.tail _ (.tail _ (.tail _ (.tail _ (.tail _ (.tail _ (.tail _ (.tail _ (.tail _ (.head _)))))))))))))))))) q hq) (fun q hq => hl2 _ (.tail _ (.tail _ (.tail _ (.tail _ (.tail _ (.tail _ (.head _))))))) q (List.mem_append_right _ hq))))) cf1 ph1 (f1) (rfl) (cl_ne (c' := { c with aa := an, na := n2, eP := (putL "answers" (PyData.keyHash w.params "answers") (.str "answers" q1) (.ref an) c.eP), nP := nP2 }) cf f0 (Nat.ne_of_lt (by (try dsimp only); omega)) (Nat.ne_of_gt f2)) (cl_ne (c' := { c with aa := an, na := n2, eP := (putL "answers" (PyData.keyHash w.params "answers") (.str "answers" q1) (.ref an) c.eP), nP := nP2 }) cf (by have := po_ord cf; omega) (Nat.ne_of_lt hzz) (Nat.ne_of_gt (by (try dsimp only); omega))) F1 (newsSub (newsApp N1 R1) ⟨.tail _ (.tail _ (.tail _ (.tail _ (.tail _ (.tail _ (.tail _ (.head _))))))), .tail _ (.tail _ (.tail _ (.tail _ (.tail _ (.tail _ (.tail _ (.tail _ (.head _)))))))), .head _, .tail _ (.head _), .tail _ (.tail _ (.tail _ (.tail _ (.tail _ (.tail _ (.tail _ (.tail _ (.tail _ (.head _))))))))), .tail _ (.tail _ (.tail _ (.tail _ (.tail _ (.tail _ (.tail _ (.tail _ (.tail _ (.tail _ (.head _)))))))))), .tail _ (.tail _ (.tail _ (.tail _ (.tail _ (.tail _ (.tail _ (.tail _ (.tail _ (.tail _ (.tail _ (.head _))))))))))), .tail _ (.tail _ (.tail _ (.tail _ (.tail _ (.tail _ (.tail _ (.tail _ (.tail _ (.tail _ (.tail _ (.tail _ (.head _)))))))))))), .tail _ (.tail _ (.tail _ (.tail _ (.tail _ (.tail _ (.tail _ (.tail _ (.tail _ (.tail _ (.tail _ (.tail _ (.tail _ (.head _))))))))))))), .tail _ (.tail _ (.tail _ (.tail _ (.tail _ (.tail _ (.tail _ (.tail _ (.tail _ (.tail _ (.tail _ (.tail _ (.tail _ (.tail _ (.head _)))))))))))))), .tail _ (.tail _ (.tail _ (.tail _ (.tail _ (.tail _ (.tail _ (.tail _ (.tail _ (.tail _ (.tail _ (.tail _ (.tail _ (.tail _ (.tail _ (.head _))))))))))))))), .tail _ (.tail _ (.head _)), .tail _ (.tail _ (.tail _ (.head _))), .tail _ (.tail _ (.tail _ (.tail _ (.tail _ (.tail _ (.tail _ (.tail _ (.tail _ (.tail _ (.tail _ (.tail _ (.tail _ (.tail _ (.tail _ (.tail _ (.head _)))))))))))))))), .tail _ (.tail _ (.tail _ (.tail _ (.tail _ (.tail _ (.tail _ (.tail _ (.tail _ (.tail _ (.tail _ (.tail _ (.tail _ (.tail _ (.tail _ (.tail _ (.tail _ (.head _))))))))))))))))), .tail _ (.tail _ (.tail _ (.tail _ (.tail _ (.tail _ (.tail _ (.tail _ (.tail _ (.tail _ (.tail _ (.tail _ (.tail _ (.tail _ (.tail _ (.tail _ (.tail _ (.tail _ (.head _)))))))))))))))))), .tail _ (.tail _ (.tail _ (.tail _ (.tail _ (.tail _ (.tail _ (.tail _ (.tail _ (.tail _ (.tail _ (.tail _ (.tail _ (.tail _ (.tail _ (.tail _ (.tail _ (.tail _ (.tail _ (.head _))))))))))))))))))), .tail _ (.tail _ (.tail _ (.tail _ (.head _)))), .tail _ (.tail _ (.tail _ (.tail _ (.tail _ (.head _))))), .tail _ (.tail _ (.tail _ (.tail _ (.tail _ (.tail _ (.tail _ (.tail _ (.tail _ (.tail _ (.tail _ (.tail _ (.tail _ (.tail _ (.tail _ (.tail _ (.tail _ (.tail _ (.tail _ (.tail _ (.head _)))))))))))))))))))), .tail _ (.tail _ (.tail _ (.tail _ (.tail _ (.tail _ (.head _)))))), .tail _ (.tail _ (.tail _ (.tail _ (.tail _ (.tail _ (.tail _ (.tail _ (.tail _ (.tail _ (.tail _ (.tail _ (.tail _ (.tail _ (.tail _ (.tail _ (.tail _ (.tail _ (.tail _ (.tail _ (.tail _ (.head _))))))))))))))))))))), .tail _ (.tail _ (.tail _ (.tail _ (.tail _ (.tail _ (.tail _ (.tail _ (.tail _ (.tail _ (.tail _ (.tail _ (.tail _ (.tail _ (.tail _ (.tail _ (.tail _ (.tail _ (.tail _ (.tail _ (.tail _ (.tail _ (.head _)))))))))))))))))))))), trivial⟩) (fun q hq => R1 q (List.mem_append_right _ hq))
set_option maxHeartbeats 1000000 in
theorem op_none_home {w : World} {p : Program} {loose : List Str} {mean : ExcName → Option Value} {mg mb : Str → Option Value} {dp un : Nat} {gd : Option (List Code)} {cn : Str} {cs : Scope} {a : Addr} {ccd : Value} {cl : List (Str × Addr)} {outer : List Env} {A₀ : Around} {base h₀ : Heap} {L : Addr} {m : Str → Option Value} {s : Shared} {Q E : Value → Shared → Prop} {rest : List (Addr × Obj)} {x : Fx} {c : Ch} {n : Nat} {wait : Int} {zz : Addr} {oz : Obj} {now : Int} {tnow : Tok}
    (B : Below A₀ base outer h₀) (F : Fr h₀ L s.heap m) (X : (hd.heap_1 w.params).In h₀) (T : Top p loose mean mg mb h₀) (hk : cs.kind = .function)
    (N₁ : News h₀ L s.heap ((zz, oz) :: CL x c)) (N₂ : News h₀ L s.heap rest) (apart : ∀ q ∈ rest, q.1 ∉ ((zz, oz) :: CL x c).map (·.1))
    (cf : CF w wait x c n) (ph : PhF wait x c n (.home)) (hz : ∀ y ∈ CL x c, y.1 ≠ zz) (hzz : @LT.lt Nat _ c.awc zz) (CH : CodeHd h₀ 473 469) (hdp : dp + 10 < recursionLimit) (hun : un + 300 < cLine)
    (ret : ∀ (al : Addr) (n3 : Nat) (c1 : Ch) (h1 : Heap) (tk1 : Nat), OffAll ((al, listOf #[] n3) :: (zz, oz) :: CL x c1) rest → CF w wait x c1 (n) → PhF wait x c1 (n) (.home) → (@LT.lt Nat _ zz al) → (c1.awc = c.awc) → (∀ y ∈ CL x c1, y.1 ≠ al) → (∀ y ∈ CL x c1, y.1 ≠ zz) → Fr h₀ L h1 m → News h₀ L h1 ((al, listOf #[] n3) :: (zz, oz) :: CL x c1) → News h₀ L h1 rest → Q (.ref al) { s with heap := h1, toks := tk1 }) :
    wpAny (model PySem.Challenge.rw_pf0276_01.row.toRowW.prog w) (ktrTop dp un gd cn cs L a ccd cl outer) (call (.ref 26) [.ref x.ac, .int now tnow]) Q E s := by
  have nd : (((zz, oz) :: CL x c).map (·.1)).Nodup := cons_nd (cl_nd cf) hz
  have cfn := cf.hn
  obtain ⟨tch, hchg⟩ := cf.challenged
  obtain ⟨th, hadr⟩ := cf.haddress
  obtain ⟨thS, hst⟩ := cf.hstate
  obtain ⟨tw, wadr⟩ := cf.waddress
  obtain ⟨⟨ts, p1⟩, p2, p3, p4⟩ := ph
  have S1 : SubL ([(x.ac, instObj 449 x.dc), (x.dc, dictOf c.ec c.nc), (x.ap, instObj 282 x.dP), (x.dP, dictOf c.eP c.nP), (x.ah, instObj 167 x.dh), (x.dh, dictOf x.eh x.nh), (c.aa, listOf #[] c.na), (zz, oz)] : List (Addr × Obj)) ((zz, oz) :: CL x c) := ⟨.tail _ (.head _), .tail _ (.tail _ (.head _)), .tail _ (.tail _ (.tail _ (.tail _ (.tail _ (.tail _ (.tail _ (.tail _ (.tail _ (.tail _ (.head _)))))))))), .tail _ (.tail _ (.tail _ (.tail _ (.tail _ (.tail _ (.tail _ (.tail _ (.tail _ (.tail _ (.tail _ (.head _))))))))))), .tail _ (.tail _ (.tail _ (.tail _ (.tail _ (.tail _ (.tail _ (.tail _ (.tail _ (.tail _ (.tail _ (.tail _ (.tail _ (.head _))))))))))))), .tail _ (.tail _ (.tail _ (.tail _ (.tail _ (.tail _ (.tail _ (.tail _ (.tail _ (.tail _ (.tail _ (.tail _ (.tail _ (.tail _ (.head _)))))))))))))), .tail _ (.tail _ (.tail _ (.tail _ (.tail _ (.tail _ (.tail _ (.tail _ (.tail _ (.tail _ (.tail _ (.tail _ (.tail _ (.tail _ (.tail _ (.tail _ (.tail _ (.tail _ (.tail _ (.head _))))))))))))))))))), .head _, trivial⟩
  have P : Part (((zz, oz) :: CL x c) ++ rest) ([(x.ac, instObj 449 x.dc), (x.dc, dictOf c.ec c.nc), (x.ap, instObj 282 x.dP), (x.dP, dictOf c.eP c.nP), (x.ah, instObj 167 x.dh), (x.dh, dictOf x.eh x.nh), (c.aa, listOf #[] c.na), (zz, oz)] : List (Addr × Obj)) (([(x.fpw, kla_obj x.ln1 x.qn1 x.pa1 x.b1 x.sc1 x.cl1 x.pm1 x.c1 x.ct1), (x.c1, x.oc1), (x.acw, x.ocw), (x.fch, kla_obj x.ln2 x.qn2 x.pa2 x.b2 x.sc2 x.cl2 x.pm2 x.c2 x.ct2), (x.c2, x.oc2), (x.as_, instObj 449 x.ds), (x.ds, dictOf x.es x.ns), (x.ak, listOf #[.ref x.ah, .ref x.aw] x.nk), (x.ahc, listOf #[] x.nhc), (x.aw, instObj 167 x.dw), (x.dw, dictOf c.ew c.nw), (c.awc, listOf c.vs.toArray c.nwc), (x.ao, listOf #[] x.no), (x.pt, tabObj x.ps)] : List (Addr × Obj)) ++ rest) := Part.mask [true, true, true, false, false, false, false, false, false, false, true, true, false, true, true, false, false, false, false, true, false, false] nd apart (SubL.mem (l := [(x.ac, instObj 449 x.dc), (x.dc, dictOf c.ec c.nc), (x.ap, instObj 282 x.dP), (x.dP, dictOf c.eP c.nP), (x.ah, instObj 167 x.dh), (x.dh, dictOf x.eh x.nh), (c.aa, listOf #[] c.na), (zz, oz)]) ⟨.tail _ (.head _), .tail _ (.tail _ (.head _)), .tail _ (.tail _ (.tail _ (.head _))), .tail _ (.tail _ (.tail _ (.tail _ (.head _)))), .tail _ (.tail _ (.tail _ (.tail _ (.tail _ (.head _))))), .tail _ (.tail _ (.tail _ (.tail _ (.tail _ (.tail _ (.head _)))))), .tail _ (.tail _ (.tail _ (.tail _ (.tail _ (.tail _ (.tail _ (.head _))))))), .head _, trivial⟩) (SubL.mem (l := [(x.fpw, kla_obj x.ln1 x.qn1 x.pa1 x.b1 x.sc1 x.cl1 x.pm1 x.c1 x.ct1), (x.c1, x.oc1), (x.acw, x.ocw), (x.fch, kla_obj x.ln2 x.qn2 x.pa2 x.b2 x.sc2 x.cl2 x.pm2 x.c2 x.ct2), (x.c2, x.oc2), (x.as_, instObj 449 x.ds), (x.ds, dictOf x.es x.ns), (x.ak, listOf #[.ref x.ah, .ref x.aw] x.nk), (x.ahc, listOf #[] x.nhc), (x.aw, instObj 167 x.dw), (x.dw, dictOf c.ew c.nw), (c.awc, listOf c.vs.toArray c.nwc), (x.ao, listOf #[] x.no), (x.pt, tabObj x.ps)]) ⟨.head _, .tail _ (.head _), .tail _ (.tail _ (.head _)), .tail _ (.tail _ (.tail _ (.head _))), .tail _ (.tail _ (.tail _ (.tail _ (.head _)))), .tail _ (.tail _ (.tail _ (.tail _ (.tail _ (.head _))))), .tail _ (.tail _ (.tail _ (.tail _ (.tail _ (.tail _ (.head _)))))), .tail _ (.tail _ (.tail _ (.tail _ (.tail _ (.tail _ (.tail _ (.head _))))))), .tail _ (.tail _ (.tail _ (.tail _ (.tail _ (.tail _ (.tail _ (.tail _ (.head _)))))))), .tail _ (.tail _ (.tail _ (.tail _ (.tail _ (.tail _ (.tail _ (.tail _ (.tail _ (.head _))))))))), .tail _ (.tail _ (.tail _ (.tail _ (.tail _ (.tail _ (.tail _ (.tail _ (.tail _ (.tail _ (.head _)))))))))), .tail _ (.tail _ (.tail _ (.tail _ (.tail _ (.tail _ (.tail _ (.tail _ (.tail _ (.tail _ (.tail _ (.head _))))))))))), .tail _ (.tail _ (.tail _ (.tail _ (.tail _ (.tail _ (.tail _ (.tail _ (.tail _ (.tail _ (.tail _ (.tail _ (.head _)))))))))))), .tail _ (.tail _ (.tail _ (.tail _ (.tail _ (.tail _ (.tail _ (.tail _ (.tail _ (.tail _ (.tail _ (.tail _ (.tail _ (.head _))))))))))))), trivial⟩)
  refine' frames_home (ap := x.ap) (dP := x.dP) (ak := x.ak) (ah := x.ah) (dh := x.dh) (ahc := x.ahc) (aw := x.aw) (dw := x.dw) (awc := c.awc) (eP := c.eP) (eh := x.eh) (ew := c.ew) (nP := c.nP) (nk := x.nk) (nh := x.nh) (nhc := x.nhc) (nw := c.nw) (nwc := c.nwc) (vs := c.vs) (bs := c.bs) (ac := x.ac) (dc := x.dc) (ec := c.ec) (nc := c.nc) (fpw := x.fpw) (fch := x.fch) (as_ := x.as_) (ds := x.ds) (acw := x.acw) (aa := c.aa) (es := x.es) (ns := x.ns) (na := c.na) (ln1 := x.ln1) (ln2 := x.ln2) (qn1 := x.qn1) (qn2 := x.qn2) (pa1 := x.pa1) (pa2 := x.pa2) (b1 := x.b1) (b2 := x.b2) (sc1 := x.sc1) (sc2 := x.sc2) (cl1 := x.cl1) (cl2 := x.cl2) (pm1 := x.pm1) (pm2 := x.pm2) (ct1 := x.ct1) (ct2 := x.ct2) (c1 := x.c1) (c2 := x.c2) (oc1 := x.oc1) (oc2 := x.oc2) (ocw := x.ocw) (n := (n : Int)) (bw := chal n) B F X T hk (newsSub N₁ S1) (P.news (newsApp N₁ N₂)) P.apart (cf.aP) (cf.aH) (cf.aW) (cf.hv) (cf.known) (cf.hchal) (cf.wchal) (cf.aC) ((by omega)) (cf.aS) (cf.paths) (cf.shake) (hchg) (cf.probe) (cf.choose) (cf.complete) (cf.answers) (cf.hPr) (fun t1 t2 t3 => cf.hCh n t1 t2 t3 (by omega)) (CH) (cf.mwc) (hadr) (wadr) (p3) (hst) (fo_ord cf) (haa4 cf) (hzz) (by omega) (by omega) ?rt
  all_goals (try first | exact Value.none | exact (0 : Nat) | exact (0 : Int) | exact (#[] : Array UInt8))
  rintro q1 an al nP2 n2 n3 h1 tk1 hl2 ⟨f0, f1, f2⟩ F1 N1 R1
  have hla : @LT.lt Nat _ c.awc an := by omega
  have hwa : c.awc ≠ an := Nat.ne_of_lt hla
  have AeP1 : AbsD (putL "answers" (PyData.keyHash w.params "answers") (.str "answers" q1) (.ref an) c.eP) (20) := AbsD.put_old cf.aP (cf.answers) _ _ _
  have cf1 : CF w wait x { c with aa := an, na := n2, eP := (putL "answers" (PyData.keyHash w.params "answers") (.str "answers" q1) (.ref an) c.eP), nP := nP2 } (n) := { aC := cf.aC, aS := cf.aS, aP := AeP1, aH := cf.aH, aW := cf.aW, hv := cf.hv, hn := cf.hn, hvl := cf.hvl, paths := cf.paths, shake := cf.shake, challenged := cf.challenged, probe := cf.probe, choose := cf.choose, owed := cf.owed, complete := cf.complete, known := gOther cf.aP (by decide) (cf.known), answers := getL_same' _ cf.aP _ _ _, mwc := gOther cf.aP (by decide) (cf.mwc), mol := gOther cf.aP (by decide) (cf.mol), mtr := gOther cf.aP (by decide) (cf.mtr), mnt := gOther cf.aP (by decide) (cf.mnt), mot := gOther cf.aP (by decide) (cf.mot), haddress := cf.haddress, hstate := cf.hstate, hfree := cf.hfree, hchal := cf.hchal, hdead := cf.hdead, his := cf.his, waddress := cf.waddress, wchal := cf.wchal, wprove := cf.wprove, wfail := cf.wfail, wchallenge := cf.wchallenge, wis := cf.wis, hPr := cf.hPr, hCh := cf.hCh, ho := cf.ho, haa := haa_of cf hla hwa }
  have ph1 : PhF wait x { c with aa := an, na := n2, eP := (putL "answers" (PyData.keyHash w.params "answers") (.str "answers" q1) (.ref an) c.eP), nP := nP2 } (n) (.home) := ⟨⟨_, p1⟩, p2, gOther cf.aP (by decide) (p3), p4⟩
  have apartC : ∀ q ∈ rest, q.1 ∉ (CL x c).map (·.1) := apart_tl (apart)
  exact ret al n3 { c with aa := an, na := n2, eP := (putL "answers" (PyData.keyHash w.params "answers") (.str "answers" q1) (.ref an) c.eP), nP := nP2 } h1 tk1 (OffAll.cons (fun q hq => hl2 _ (.tail _ (.tail _ (.tail _ (.tail _ (.tail _ (.tail _ (.tail _ (.head _)))))))) q (List.mem_append_right _ hq)) (OffAll.cons (fun q hq => hl2 _ (.tail _ (.tail _ (.tail _ (.tail _ (.tail _ (.tail _ (.tail _ (.tail _ (.head _))))))))) q (List.mem_append_right _ hq)) (cl_off apartC (fun q hq => apart_ne apartC (y := (c.awc, listOf c.vs.toArray c.nwc)) (.tail _ (.tail _ (.tail _ (.tail _ (.tail _ (.tail _ (.tail _ (.tail _ (.tail _ (.tail _ (.tail _ (.tail _ (.tail _ (.tail _ (.tail _ (.tail _ (.tail _ (.head _)))))))))))))))))) q hq) (fun q hq => hl2 _ (.tail _ (.tail _ (.tail _ (.tail _ (.tail _ (.tail _ (.head _))))))) q (List.mem_append_right _ hq))))) cf1 ph1 (f1) (rfl) (cl_ne (c' := { c with aa := an, na := n2, eP := (putL "answers" (PyData.keyHash w.params "answers") (.str "answers" q1) (.ref an) c.eP), nP := nP2 }) cf f0 (Nat.ne_of_lt (by (try dsimp only); omega)) (Nat.ne_of_gt f2)) (cl_ne (c' := { c with aa := an, na := n2, eP := (putL "answers" (PyData.keyHash w.params "answers") (.str "answers" q1) (.ref an) c.eP), nP := nP2 }) cf (by have := po_ord cf; omega) (Nat.ne_of_lt hzz) (Nat.ne_of_gt (by (try dsimp only); omega))) F1 (newsSub (newsApp N1 R1) ⟨.tail _ (.tail _ (.tail _ (.tail _ (.tail _ (.tail _ (.tail _ (.head _))))))), .tail _ (.tail _ (.tail _ (.tail _ (.tail _ (.tail _ (.tail _ (.tail _ (.head _)))))))), .head _, .tail _ (.head _), .tail _ (.tail _ (.tail _ (.tail _ (.tail _ (.tail _ (.tail _ (.tail _ (.tail _ (.head _))))))))), .tail _ (.tail _ (.tail _ (.tail _ (.tail _ (.tail _ (.tail _ (.tail _ (.tail _ (.tail _ (.head _)))))))))), .tail _ (.tail _ (.tail _ (.tail _ (.tail _ (.tail _ (.tail _ (.tail _ (.tail _ (.tail _ (.tail _ (.head _))))))))))), .tail _ (.tail _ (.tail _ (.tail _ (.tail _ (.tail _ (.tail _ (.tail _ (.tail _ (.tail _ (.tail _ (.tail _ (.head _)))))))))))), .tail _ (.tail _ (.tail _ (.tail _ (.tail _ (.tail _ (.tail _ (.tail _ (.tail _ (.tail _ (.tail _ (.tail _ (.tail _ (.head _))))))))))))), .tail _ (.tail _ (.tail _ (.tail _ (.tail _ (.tail _ (.tail _ (.tail _ (.tail _ (.tail _ (.tail _ (.tail _ (.tail _ (.tail _ (.head _)))))))))))))), .tail _ (.tail _ (.tail _ (.tail _ (.tail _ (.tail _ (.tail _ (.tail _ (.tail _ (.tail _ (.tail _ (.tail _ (.tail _ (.tail _ (.tail _ (.head _))))))))))))))), .tail _ (.tail _ (.head _)), .tail _ (.tail _ (.tail _ (.head _))), .tail _ (.tail _ (.tail _ (.tail _ (.tail _ (.tail _ (.tail _ (.tail _ (.tail _ (.tail _ (.tail _ (.tail _ (.tail _ (.tail _ (.tail _ (.tail _ (.head _)))))))))))))))), .tail _ (.tail _ (.tail _ (.tail _ (.head _)))), .tail _ (.tail _ (.tail _ (.tail _ (.tail _ (.head _))))), .tail _ (.tail _ (.tail _ (.tail _ (.tail _ (.tail _ (.tail _ (.tail _ (.tail _ (.tail _ (.tail _ (.tail _ (.tail _ (.tail _ (.tail _ (.tail _ (.tail _ (.head _))))))))))))))))), .tail _ (.tail _ (.tail _ (.tail _ (.tail _ (.tail _ (.tail _ (.tail _ (.tail _ (.tail _ (.tail _ (.tail _ (.tail _ (.tail _ (.tail _ (.tail _ (.tail _ (.tail _ (.head _)))))))))))))))))), .tail _ (.tail _ (.tail _ (.tail _ (.tail _ (.tail _ (.tail _ (.tail _ (.tail _ (.tail _ (.tail _ (.tail _ (.tail _ (.tail _ (.tail _ (.tail _ (.tail _ (.tail _ (.tail _ (.head _))))))))))))))))))), .tail _ (.tail _ (.tail _ (.tail _ (.tail _ (.tail _ (.tail _ (.tail _ (.tail _ (.tail _ (.tail _ (.tail _ (.tail _ (.tail _ (.tail _ (.tail _ (.tail _ (.tail _ (.tail _ (.tail _ (.head _)))))))))))))))))))), .tail _ (.tail _ (.tail _ (.tail _ (.tail _ (.tail _ (.head _)))))), .tail _ (.tail _ (.tail _ (.tail _ (.tail _ (.tail _ (.tail _ (.tail _ (.tail _ (.tail _ (.tail _ (.tail _ (.tail _ (.tail _ (.tail _ (.tail _ (.tail _ (.tail _ (.tail _ (.tail _ (.tail _ (.head _))))))))))))))))))))), .tail _ (.tail _ (.tail _ (.tail _ (.tail _ (.tail _ (.tail _ (.tail _ (.tail _ (.tail _ (.tail _ (.tail _ (.tail _ (.tail _ (.tail _ (.tail _ (.tail _ (.tail _ (.tail _ (.tail _ (.tail _ (.tail _ (.head _)))))))))))))))))))))), trivial⟩) (fun q hq => R1 q (List.mem_append_right _ hq))
set_option maxHeartbeats 1000000 in
theorem op_again {w : World} {p : Program} {loose : List Str} {mean : ExcName → Option Value} {mg mb : Str → Option Value} {dp un : Nat} {gd : Option (List Code)} {cn : Str} {cs : Scope} {a : Addr} {ccd : Value} {cl : List (Str × Addr)} {outer : List Env} {A₀ : Around} {base h₀ : Heap} {L : Addr} {m : Str → Option Value} {s : Shared} {Q E : Value → Shared → Prop} {rest : List (Addr × Obj)} {x : Fx} {c : Ch} {n : Nat} {wait : Int} {zz : Addr} {oz : Obj} {now : Int} {tnow : Tok}
    (B : Below A₀ base outer h₀) (F : Fr h₀ L s.heap m) (X : (hd.heap_1 w.params).In h₀) (T : Top p loose mean mg mb h₀) (hk : cs.kind = .function)
    (N₁ : News h₀ L s.heap ((zz, oz) :: CL x c)) (N₂ : News h₀ L s.heap rest) (apart : ∀ q ∈ rest, q.1 ∉ ((zz, oz) :: CL x c).map (·.1))
    (cf : CF w wait x c n) (ph : PhF wait x c n (.tried true)) (hz : ∀ y ∈ CL x c, y.1 ≠ zz) (hzz : @LT.lt Nat _ c.awc zz) (CH : CodeHd h₀ 473 469) (hn2 : n < 20) (hdp : dp + 10 < recursionLimit) (hun : un + 300 < cLine)
    (ret : ∀ (al : Addr) (at_ : Addr) (n3 : Nat) (u5 : Tok) (u6 : Tok) (c1 : Ch) (h1 : Heap) (tk1 : Nat), OffAll ((at_, { cls := .type "tuple", data := .seq #[.str (Str.ofString "path_challenge") u5, .bytes (chal n) u6] }) :: (al, listOf #[.ref at_] n3) :: (zz, oz) :: CL x c1) rest → CF w wait x c1 (n + 1) → PhF wait x c1 (n + 1) (.tried false) → (@LT.lt Nat _ zz al) → (@LT.lt Nat _ al at_) → (@LT.lt Nat _ c1.awc at_) → (∀ y ∈ CL x c1, y.1 ≠ al) → (∀ y ∈ CL x c1, y.1 ≠ at_) → (∀ y ∈ CL x c1, y.1 ≠ zz) → Fr h₀ L h1 m → News h₀ L h1 ((at_, { cls := .type "tuple", data := .seq #[.str (Str.ofString "path_challenge") u5, .bytes (chal n) u6] }) :: (al, listOf #[.ref at_] n3) :: (zz, oz) :: CL x c1) → News h₀ L h1 rest → Q (.ref al) { s with heap := h1, toks := tk1 }) :
    wpAny (model PySem.Challenge.rw_pf0276_01.row.toRowW.prog w) (ktrTop dp un gd cn cs L a ccd cl outer) (call (.ref 26) [.ref x.ac, .int now tnow]) Q E s := by
  have nd : (((zz, oz) :: CL x c).map (·.1)).Nodup := cons_nd (cl_nd cf) hz
  have cfn := cf.hn
  obtain ⟨tch, hchg⟩ := cf.challenged
  obtain ⟨th, hadr⟩ := cf.haddress
  obtain ⟨thS, hst⟩ := cf.hstate
  obtain ⟨tw, wadr⟩ := cf.waddress
  obtain ⟨⟨ts, p1⟩, p2, ⟨td, p3⟩, p4, p5, p6, p7⟩ := ph
  have S1 : SubL ([(x.ac, instObj 449 x.dc), (x.dc, dictOf c.ec c.nc), (x.fpw, kla_obj x.ln1 x.qn1 x.pa1 x.b1 x.sc1 x.cl1 x.pm1 x.c1 x.ct1), (x.c1, x.oc1), (x.acw, x.ocw), (x.fch, kla_obj x.ln2 x.qn2 x.pa2 x.b2 x.sc2 x.cl2 x.pm2 x.c2 x.ct2), (x.c2, x.oc2), (x.as_, instObj 449 x.ds), (x.ds, dictOf x.es x.ns), (x.ap, instObj 282 x.dP), (x.dP, dictOf c.eP c.nP), (x.aw, instObj 167 x.dw), (x.dw, dictOf c.ew c.nw), (c.awc, listOf c.vs.toArray c.nwc), (c.aa, listOf #[] c.na), (zz, oz)] : List (Addr × Obj)) ((zz, oz) :: CL x c) := ⟨.tail _ (.head _), .tail _ (.tail _ (.head _)), .tail _ (.tail _ (.tail _ (.head _))), .tail _ (.tail _ (.tail _ (.tail _ (.head _)))), .tail _ (.tail _ (.tail _ (.tail _ (.tail _ (.head _))))), .tail _ (.tail _ (.tail _ (.tail _ (.tail _ (.tail _ (.head _)))))), .tail _ (.tail _ (.tail _ (.tail _ (.tail _ (.tail _ (.tail _ (.head _))))))), .tail _ (.tail _ (.tail _ (.tail _ (.tail _ (.tail _ (.tail _ (.tail _ (.head _)))))))), .tail _ (.tail _ (.tail _ (.tail _ (.tail _ (.tail _ (.tail _ (.tail _ (.tail _ (.head _))))))))), .tail _ (.tail _ (.tail _ (.tail _ (.tail _ (.tail _ (.tail _ (.tail _ (.tail _ (.tail _ (.head _)))))))))), .tail _ (.tail _ (.tail _ (.tail _ (.tail _ (.tail _ (.tail _ (.tail _ (.tail _ (.tail _ (.tail _ (.head _))))))))))), .tail _ (.tail _ (.tail _ (.tail _ (.tail _ (.tail _ (.tail _ (.tail _ (.tail _ (.tail _ (.tail _ (.tail _ (.tail _ (.tail _ (.tail _ (.tail _ (.head _)))))))))))))))), .tail _ (.tail _ (.tail _ (.tail _ (.tail _ (.tail _ (.tail _ (.tail _ (.tail _ (.tail _ (.tail _ (.tail _ (.tail _ (.tail _ (.tail _ (.tail _ (.tail _ (.head _))))))))))))))))), .tail _ (.tail _ (.tail _ (.tail _ (.tail _ (.tail _ (.tail _ (.tail _ (.tail _ (.tail _ (.tail _ (.tail _ (.tail _ (.tail _ (.tail _ (.tail _ (.tail _ (.tail _ (.head _)))))))))))))))))), .tail _ (.tail _ (.tail _ (.tail _ (.tail _ (.tail _ (.tail _ (.tail _ (.tail _ (.tail _ (.tail _ (.tail _ (.tail _ (.tail _ (.tail _ (.tail _ (.tail _ (.tail _ (.tail _ (.head _))))))))))))))))))), .head _, trivial⟩
  have P : Part (((zz, oz) :: CL x c) ++ rest) ([(x.ac, instObj 449 x.dc), (x.dc, dictOf c.ec c.nc), (x.fpw, kla_obj x.ln1 x.qn1 x.pa1 x.b1 x.sc1 x.cl1 x.pm1 x.c1 x.ct1), (x.c1, x.oc1), (x.acw, x.ocw), (x.fch, kla_obj x.ln2 x.qn2 x.pa2 x.b2 x.sc2 x.cl2 x.pm2 x.c2 x.ct2), (x.c2, x.oc2), (x.as_, instObj 449 x.ds), (x.ds, dictOf x.es x.ns), (x.ap, instObj 282 x.dP), (x.dP, dictOf c.eP c.nP), (x.aw, instObj 167 x.dw), (x.dw, dictOf c.ew c.nw), (c.awc, listOf c.vs.toArray c.nwc), (c.aa, listOf #[] c.na), (zz, oz)] : List (Addr × Obj)) (([(x.ak, listOf #[.ref x.ah, .ref x.aw] x.nk), (x.ah, instObj 167 x.dh), (x.dh, dictOf x.eh x.nh), (x.ahc, listOf #[] x.nhc), (x.ao, listOf #[] x.no), (x.pt, tabObj x.ps)] : List (Addr × Obj)) ++ rest) := Part.mask [true, true, true, true, true, true, true, true, true, true, true, true, false, false, false, false, true, true, true, true, false, false] nd apart (SubL.mem (l := [(x.ac, instObj 449 x.dc), (x.dc, dictOf c.ec c.nc), (x.fpw, kla_obj x.ln1 x.qn1 x.pa1 x.b1 x.sc1 x.cl1 x.pm1 x.c1 x.ct1), (x.c1, x.oc1), (x.acw, x.ocw), (x.fch, kla_obj x.ln2 x.qn2 x.pa2 x.b2 x.sc2 x.cl2 x.pm2 x.c2 x.ct2), (x.c2, x.oc2), (x.as_, instObj 449 x.ds), (x.ds, dictOf x.es x.ns), (x.ap, instObj 282 x.dP), (x.dP, dictOf c.eP c.nP), (x.aw, instObj 167 x.dw), (x.dw, dictOf c.ew c.nw), (c.awc, listOf c.vs.toArray c.nwc), (c.aa, listOf #[] c.na), (zz, oz)]) ⟨.tail _ (.head _), .tail _ (.tail _ (.head _)), .tail _ (.tail _ (.tail _ (.head _))), .tail _ (.tail _ (.tail _ (.tail _ (.head _)))), .tail _ (.tail _ (.tail _ (.tail _ (.tail _ (.head _))))), .tail _ (.tail _ (.tail _ (.tail _ (.tail _ (.tail _ (.head _)))))), .tail _ (.tail _ (.tail _ (.tail _ (.tail _ (.tail _ (.tail _ (.head _))))))), .tail _ (.tail _ (.tail _ (.tail _ (.tail _ (.tail _ (.tail _ (.tail _ (.head _)))))))), .tail _ (.tail _ (.tail _ (.tail _ (.tail _ (.tail _ (.tail _ (.tail _ (.tail _ (.head _))))))))), .tail _ (.tail _ (.tail _ (.tail _ (.tail _ (.tail _ (.tail _ (.tail _ (.tail _ (.tail _ (.head _)))))))))), .tail _ (.tail _ (.tail _ (.tail _ (.tail _ (.tail _ (.tail _ (.tail _ (.tail _ (.tail _ (.tail _ (.head _))))))))))), .tail _ (.tail _ (.tail _ (.tail _ (.tail _ (.tail _ (.tail _ (.tail _ (.tail _ (.tail _ (.tail _ (.tail _ (.head _)))))))))))), .tail _ (.tail _ (.tail _ (.tail _ (.tail _ (.tail _ (.tail _ (.tail _ (.tail _ (.tail _ (.tail _ (.tail _ (.tail _ (.head _))))))))))))), .tail _ (.tail _ (.tail _ (.tail _ (.tail _ (.tail _ (.tail _ (.tail _ (.tail _ (.tail _ (.tail _ (.tail _ (.tail _ (.tail _ (.head _)))))))))))))), .tail _ (.tail _ (.tail _ (.tail _ (.tail _ (.tail _ (.tail _ (.tail _ (.tail _ (.tail _ (.tail _ (.tail _ (.tail _ (.tail _ (.tail _ (.head _))))))))))))))), .head _, trivial⟩) (SubL.mem (l := [(x.ak, listOf #[.ref x.ah, .ref x.aw] x.nk), (x.ah, instObj 167 x.dh), (x.dh, dictOf x.eh x.nh), (x.ahc, listOf #[] x.nhc), (x.ao, listOf #[] x.no), (x.pt, tabObj x.ps)]) ⟨.head _, .tail _ (.head _), .tail _ (.tail _ (.head _)), .tail _ (.tail _ (.tail _ (.head _))), .tail _ (.tail _ (.tail _ (.tail _ (.head _)))), .tail _ (.tail _ (.tail _ (.tail _ (.tail _ (.head _))))), trivial⟩)
  refine' frames_again (ap := x.ap) (dP := x.dP) (ak := x.ak) (ah := x.ah) (dh := x.dh) (ahc := x.ahc) (aw := x.aw) (dw := x.dw) (awc := c.awc) (eP := c.eP) (eh := x.eh) (ew := c.ew) (nP := c.nP) (nk := x.nk) (nh := x.nh) (nhc := x.nhc) (nw := c.nw) (nwc := c.nwc) (vs := c.vs) (bs := c.bs) (ac := x.ac) (dc := x.dc) (ec := c.ec) (nc := c.nc) (fpw := x.fpw) (fch := x.fch) (as_ := x.as_) (ds := x.ds) (acw := x.acw) (aa := c.aa) (es := x.es) (ns := x.ns) (na := c.na) (ln1 := x.ln1) (ln2 := x.ln2) (qn1 := x.qn1) (qn2 := x.qn2) (pa1 := x.pa1) (pa2 := x.pa2) (b1 := x.b1) (b2 := x.b2) (sc1 := x.sc1) (sc2 := x.sc2) (cl1 := x.cl1) (cl2 := x.cl2) (pm1 := x.pm1) (pm2 := x.pm2) (ct1 := x.ct1) (ct2 := x.ct2) (c1 := x.c1) (c2 := x.c2) (oc1 := x.oc1) (oc2 := x.oc2) (ocw := x.ocw) (n := (n : Int)) (bw := chal n) B F X T hk (newsSub N₁ S1) (P.news (newsApp N₁ N₂)) P.apart (cf.aP) (cf.aH) (cf.aW) (cf.hv) (cf.known) (cf.hchal) (cf.wchal) (cf.aC) ((by omega)) (cf.aS) (cf.paths) (cf.shake) (hchg) (cf.probe) (cf.choose) (cf.complete) (cf.answers) (cf.hPr) (fun t1 t2 t3 => cf.hCh n t1 t2 t3 (by omega)) (CH) (cf.mwc) (hadr) (wadr) (fo_ord cf) (haa4 cf) (hzz) (cf.wchallenge) (p5) (p1) (p2) (cf.hvl) (by omega) (by omega) ?rt
  all_goals (try first | exact Value.none | exact (0 : Nat) | exact (0 : Int) | exact (#[] : Array UInt8))
  rintro q1 q2 q3 q4 u1 u2 u4 u5 u6 an al at_ nP2 nc2 nw2 n2 n3 n4 h1 tk1 hl2 ⟨f0, f1, f2, f3⟩ F1 N1 R1
  have hla : @LT.lt Nat _ c.awc an := by omega
  have hwa : c.awc ≠ an := Nat.ne_of_lt hla
  have hbl : c.vs.length = n := by rw [cf.hv.len, p7, chals_len]
  simp only [List.push_toArray] at hl2 N1
  have Aec1 : AbsD (putL "challenged" (PyData.keyHash w.params "challenged") (.str "challenged" q2) (.int (n + 1) u1) c.ec) (40 + n) := AbsD.put_old cf.aC (hchg) _ _ _
  have Aec2 : AbsD (putL "again_at" (PyData.keyHash w.params "again_at") (.str "again_at" q3) (.int (now + wait) u2) (putL "challenged" (PyData.keyHash w.params "challenged") (.str "challenged" q2) (.int (n + 1) u1) c.ec)) (40 + n+1) := AbsD.put Aec1 _ _ _ _
  have AeP1 : AbsD (putL "answers" (PyData.keyHash w.params "answers") (.str "answers" q1) (.ref an) c.eP) (20) := AbsD.put_old cf.aP (cf.answers) _ _ _
  have Aew1 : AbsD (putL "wants_more" (PyData.keyHash w.params "wants_more") (.str "wants_more" q4) (.bool false) c.ew) (20) := AbsD.put_old cf.aW (p2) _ _ _
  have cf1 : CF w wait x { c with aa := an, na := n2, nwc := n4, vs := c.vs ++ [Value.bytes (chal n) u4], bs := c.bs ++ [chal n], ec := (putL "again_at" (PyData.keyHash w.params "again_at") (.str "again_at" q3) (.int (now + wait) u2) (putL "challenged" (PyData.keyHash w.params "challenged") (.str "challenged" q2) (.int (n + 1) u1) c.ec)), nc := nc2, eP := (putL "answers" (PyData.keyHash w.params "answers") (.str "answers" q1) (.ref an) c.eP), nP := nP2, ew := (putL "wants_more" (PyData.keyHash w.params "wants_more") (.str "wants_more" q4) (.bool false) c.ew), nw := nw2 } (n + 1) := { aC := Aec2, aS := cf.aS, aP := AeP1, aH := cf.aH, aW := Aew1, hv := cf.hv.app (.cons _ _ .nil), hn := hn2, hvl := (by rw [List.length_append, hbl]; exact Nat.le_trans (Nat.succ_le_succ cf.hn) (Nat.le_of_ble_eq_true rfl)), paths := gOther Aec1 (by decide) (gOther cf.aC (by decide) (cf.paths)), shake := gOther Aec1 (by decide) (gOther cf.aC (by decide) (cf.shake)), challenged := ⟨_, gOther Aec1 (by decide) (getL_same' _ cf.aC _ _ _)⟩, probe := gOther Aec1 (by decide) (gOther cf.aC (by decide) (cf.probe)), choose := gOther Aec1 (by decide) (gOther cf.aC (by decide) (cf.choose)), owed := gOther Aec1 (by decide) (gOther cf.aC (by decide) (cf.owed)), complete := cf.complete, known := gOther cf.aP (by decide) (cf.known), answers := getL_same' _ cf.aP _ _ _, mwc := gOther cf.aP (by decide) (cf.mwc), mol := gOther cf.aP (by decide) (cf.mol), mtr := gOther cf.aP (by decide) (cf.mtr), mnt := gOther cf.aP (by decide) (cf.mnt), mot := gOther cf.aP (by decide) (cf.mot), haddress := cf.haddress, hstate := cf.hstate, hfree := cf.hfree, hchal := cf.hchal, hdead := cf.hdead, his := cf.his, waddress := ⟨_, gOther cf.aW (by decide) (wadr)⟩, wchal := gOther cf.aW (by decide) (cf.wchal), wprove := gOther cf.aW (by decide) (cf.wprove), wfail := gOther cf.aW (by decide) (cf.wfail), wchallenge := gOther cf.aW (by decide) (cf.wchallenge), wis := gOther cf.aW (by decide) (cf.wis), hPr := cf.hPr, hCh := cf.hCh, ho := cf.ho, haa := haa_of cf hla hwa }
  have ph1 : PhF wait x { c with aa := an, na := n2, nwc := n4, vs := c.vs ++ [Value.bytes (chal n) u4], bs := c.bs ++ [chal n], ec := (putL "again_at" (PyData.keyHash w.params "again_at") (.str "again_at" q3) (.int (now + wait) u2) (putL "challenged" (PyData.keyHash w.params "challenged") (.str "challenged" q2) (.int (n + 1) u1) c.ec)), nc := nc2, eP := (putL "answers" (PyData.keyHash w.params "answers") (.str "answers" q1) (.ref an) c.eP), nP := nP2, ew := (putL "wants_more" (PyData.keyHash w.params "wants_more") (.str "wants_more" q4) (.bool false) c.ew), nw := nw2 } (n + 1) (.tried false) := ⟨⟨_, gOther cf.aW (by decide) (p1)⟩, getL_same' _ cf.aW _ _ _, ⟨_, gOther cf.aW (by decide) (p3)⟩, gOther cf.aW (by decide) (p4), gOther cf.aP (by decide) (p5), gOther cf.aP (by decide) (p6), (by rw [chals_succ, ← p7])⟩
  have apartC : ∀ q ∈ rest, q.1 ∉ (CL x c).map (·.1) := apart_tl (apart)
  exact ret al at_ n3 u5 u6 { c with aa := an, na := n2, nwc := n4, vs := c.vs ++ [Value.bytes (chal n) u4], bs := c.bs ++ [chal n], ec := (putL "again_at" (PyData.keyHash w.params "again_at") (.str "again_at" q3) (.int (now + wait) u2) (putL "challenged" (PyData.keyHash w.params "challenged") (.str "challenged" q2) (.int (n + 1) u1) c.ec)), nc := nc2, eP := (putL "answers" (PyData.keyHash w.params "answers") (.str "answers" q1) (.ref an) c.eP), nP := nP2, ew := (putL "wants_more" (PyData.keyHash w.params "wants_more") (.str "wants_more" q4) (.bool false) c.ew), nw := nw2 } h1 tk1 (OffAll.cons (fun q hq => hl2 _ (.tail _ (.tail _ (.tail _ (.tail _ (.tail _ (.tail _ (.tail _ (.tail _ (.tail _ (.tail _ (.tail _ (.tail _ (.tail _ (.tail _ (.tail _ (.head _)))))))))))))))) q (List.mem_append_right _ hq)) (OffAll.cons (fun q hq => hl2 _ (.tail _ (.tail _ (.tail _ (.tail _ (.tail _ (.tail _ (.tail _ (.tail _ (.tail _ (.tail _ (.tail _ (.tail _ (.tail _ (.tail _ (.tail _ (.tail _ (.head _))))))))))))))))) q (List.mem_append_right _ hq)) (OffAll.cons (fun q hq => hl2 _ (.tail _ (.tail _ (.tail _ (.tail _ (.tail _ (.tail _ (.tail _ (.tail _ (.tail _ (.tail _ (.tail _ (.tail _ (.tail _ (.tail _ (.tail _ (.tail _ (.tail _ (.head _)))))))))))))))))) q (List.mem_append_right _ hq)) (cl_off apartC (fun q hq => apart_ne apartC (y := (c.awc, listOf c.vs.toArray c.nwc)) (.tail _ (.tail _ (.tail _ (.tail _ (.tail _ (.tail _ (.tail _ (.tail _ (.tail _ (.tail _ (.tail _ (.tail _ (.tail _ (.tail _ (.tail _ (.tail _ (.tail _ (.head _)))))))))))))))))) q hq) (fun q hq => hl2 _ (.tail _ (.tail _ (.tail _ (.tail _ (.tail _ (.tail _ (.tail _ (.tail _ (.tail _ (.tail _ (.tail _ (.tail _ (.tail _ (.tail _ (.head _))))))))))))))) q (List.mem_append_right _ hq)))))) cf1 ph1 (f1) (by omega) (by (try dsimp only); omega) (cl_ne (c' := { c with aa := an, na := n2, nwc := n4, vs := c.vs ++ [Value.bytes (chal n) u4], bs := c.bs ++ [chal n], ec := (putL "again_at" (PyData.keyHash w.params "again_at") (.str "again_at" q3) (.int (now + wait) u2) (putL "challenged" (PyData.keyHash w.params "challenged") (.str "challenged" q2) (.int (n + 1) u1) c.ec)), nc := nc2, eP := (putL "answers" (PyData.keyHash w.params "answers") (.str "answers" q1) (.ref an) c.eP), nP := nP2, ew := (putL "wants_more" (PyData.keyHash w.params "wants_more") (.str "wants_more" q4) (.bool false) c.ew), nw := nw2 }) cf f0 (Nat.ne_of_lt (by (try dsimp only); omega)) (Nat.ne_of_gt f2)) (cl_ne (c' := { c with aa := an, na := n2, nwc := n4, vs := c.vs ++ [Value.bytes (chal n) u4], bs := c.bs ++ [chal n], ec := (putL "again_at" (PyData.keyHash w.params "again_at") (.str "again_at" q3) (.int (now + wait) u2) (putL "challenged" (PyData.keyHash w.params "challenged") (.str "challenged" q2) (.int (n + 1) u1) c.ec)), nc := nc2, eP := (putL "answers" (PyData.keyHash w.params "answers") (.str "answers" q1) (.ref an) c.eP), nP := nP2, ew := (putL "wants_more" (PyData.keyHash w.params "wants_more") (.str "wants_more" q4) (.bool false) c.ew), nw := nw2 }) cf (by (try dsimp only); omega) (Nat.ne_of_lt (by (try dsimp only); omega)) (Nat.ne_of_lt (by (try dsimp only); omega))) (cl_ne (c' := { c with aa := an, na := n2, nwc := n4, vs := c.vs ++ [Value.bytes (chal n) u4], bs := c.bs ++ [chal n], ec := (putL "again_at" (PyData.keyHash w.params "again_at") (.str "again_at" q3) (.int (now + wait) u2) (putL "challenged" (PyData.keyHash w.params "challenged") (.str "challenged" q2) (.int (n + 1) u1) c.ec)), nc := nc2, eP := (putL "answers" (PyData.keyHash w.params "answers") (.str "answers" q1) (.ref an) c.eP), nP := nP2, ew := (putL "wants_more" (PyData.keyHash w.params "wants_more") (.str "wants_more" q4) (.bool false) c.ew), nw := nw2 }) cf (by have := po_ord cf; omega) (Nat.ne_of_lt (by (try dsimp only); omega)) (Nat.ne_of_gt (by (try dsimp only); omega))) F1 (newsSub (newsApp N1 R1) ⟨.tail _ (.tail _ (.tail _ (.tail _ (.tail _ (.tail _ (.tail _ (.tail _ (.tail _ (.tail _ (.tail _ (.tail _ (.tail _ (.tail _ (.tail _ (.head _))))))))))))))), .tail _ (.tail _ (.tail _ (.tail _ (.tail _ (.tail _ (.tail _ (.tail _ (.tail _ (.tail _ (.tail _ (.tail _ (.tail _ (.tail _ (.tail _ (.tail _ (.head _)))))))))))))))), .tail _ (.tail _ (.tail _ (.tail _ (.tail _ (.tail _ (.tail _ (.tail _ (.tail _ (.tail _ (.tail _ (.tail _ (.tail _ (.tail _ (.tail _ (.tail _ (.tail _ (.head _))))))))))))))))), .head _, .tail _ (.head _), .tail _ (.tail _ (.head _)), .tail _ (.tail _ (.tail _ (.head _))), .tail _ (.tail _ (.tail _ (.tail _ (.head _)))), .tail _ (.tail _ (.tail _ (.tail _ (.tail _ (.head _))))), .tail _ (.tail _ (.tail _ (.tail _ (.tail _ (.tail _ (.head _)))))), .tail _ (.tail _ (.tail _ (.tail _ (.tail _ (.tail _ (.tail _ (.head _))))))), .tail _ (.tail _ (.tail _ (.tail _ (.tail _ (.tail _ (.tail _ (.tail _ (.head _)))))))), .tail _ (.tail _ (.tail _ (.tail _ (.tail _ (.tail _ (.tail _ (.tail _ (.tail _ (.head _))))))))), .tail _ (.tail _ (.tail _ (.tail _ (.tail _ (.tail _ (.tail _ (.tail _ (.tail _ (.tail _ (.head _)))))))))), .tail _ (.tail _ (.tail _ (.tail _ (.tail _ (.tail _ (.tail _ (.tail _ (.tail _ (.tail _ (.tail _ (.tail _ (.tail _ (.tail _ (.tail _ (.tail _ (.tail _ (.tail _ (.head _)))))))))))))))))), .tail _ (.tail _ (.tail _ (.tail _ (.tail _ (.tail _ (.tail _ (.tail _ (.tail _ (.tail _ (.tail _ (.tail _ (.tail _ (.tail _ (.tail _ (.tail _ (.tail _ (.tail _ (.tail _ (.head _))))))))))))))))))), .tail _ (.tail _ (.tail _ (.tail _ (.tail _ (.tail _ (.tail _ (.tail _ (.tail _ (.tail _ (.tail _ (.tail _ (.tail _ (.tail _ (.tail _ (.tail _ (.tail _ (.tail _ (.tail _ (.tail _ (.head _)))))))))))))))))))), .tail _ (.tail _ (.tail _ (.tail _ (.tail _ (.tail _ (.tail _ (.tail _ (.tail _ (.tail _ (.tail _ (.tail _ (.tail _ (.tail _ (.tail _ (.tail _ (.tail _ (.tail _ (.tail _ (.tail _ (.tail _ (.head _))))))))))))))))))))), .tail _ (.tail _ (.tail _ (.tail _ (.tail _ (.tail _ (.tail _ (.tail _ (.tail _ (.tail _ (.tail _ (.head _))))))))))), .tail _ (.tail _ (.tail _ (.tail _ (.tail _ (.tail _ (.tail _ (.tail _ (.tail _ (.tail _ (.tail _ (.tail _ (.head _)))))))))))), .tail _ (.tail _ (.tail _ (.tail _ (.tail _ (.tail _ (.tail _ (.tail _ (.tail _ (.tail _ (.tail _ (.tail _ (.tail _ (.head _))))))))))))), .tail _ (.tail _ (.tail _ (.tail _ (.tail _ (.tail _ (.tail _ (.tail _ (.tail _ (.tail _ (.tail _ (.tail _ (.tail _ (.tail _ (.head _)))))))))))))), .tail _ (.tail _ (.tail _ (.tail _ (.tail _ (.tail _ (.tail _ (.tail _ (.tail _ (.tail _ (.tail _ (.tail _ (.tail _ (.tail _ (.tail _ (.tail _ (.tail _ (.tail _ (.tail _ (.tail _ (.tail _ (.tail _ (.head _)))))))))))))))))))))), .tail _ (.tail _ (.tail _ (.tail _ (.tail _ (.tail _ (.tail _ (.tail _ (.tail _ (.tail _ (.tail _ (.tail _ (.tail _ (.tail _ (.tail _ (.tail _ (.tail _ (.tail _ (.tail _ (.tail _ (.tail _ (.tail _ (.tail _ (.head _))))))))))))))))))))))), trivial⟩) (fun q hq => R1 q (List.mem_append_right _ hq))
set_option maxHeartbeats 1000000 in
theorem op_first {w : World} {p : Program} {loose : List Str} {mean : ExcName → Option Value} {mg mb : Str → Option Value} {dp un : Nat} {gd : Option (List Code)} {cn : Str} {cs : Scope} {a : Addr} {ccd : Value} {cl : List (Str × Addr)} {outer : List Env} {A₀ : Around} {base h₀ : Heap} {L : Addr} {m : Str → Option Value} {s : Shared} {Q E : Value → Shared → Prop} {rest : List (Addr × Obj)} {x : Fx} {c : Ch} {n : Nat} {wait : Int} {zz : Addr} {oz : Obj} {now : Int} {tnow : Tok}
    (B : Below A₀ base outer h₀) (F : Fr h₀ L s.heap m) (X : (hd.heap_1 w.params).In h₀) (T : Top p loose mean mg mb h₀) (hk : cs.kind = .function)
    (N₁ : News h₀ L s.heap ((zz, oz) :: CL x c)) (N₂ : News h₀ L s.heap rest) (apart : ∀ q ∈ rest, q.1 ∉ ((zz, oz) :: CL x c).map (·.1))
    (cf : CF w wait x c n) (ph : PhF wait x c n (.fresh)) (hz : ∀ y ∈ CL x c, y.1 ≠ zz) (hzz : @LT.lt Nat _ c.awc zz) (CH : CodeHd h₀ 473 469) (hnow : now = 0) (hdp : dp + 10 < recursionLimit) (hun : un + 300 < cLine)
    (ret : ∀ (al : Addr) (at_ : Addr) (n3 : Nat) (u5 : Tok) (u6 : Tok) (c1 : Ch) (h1 : Heap) (tk1 : Nat), OffAll ((at_, { cls := .type "tuple", data := .seq #[.str (Str.ofString "path_challenge") u5, .bytes (chal n) u6] }) :: (al, listOf #[.ref at_] n3) :: (zz, oz) :: CL x c1) rest → CF w wait x c1 (n + 1) → PhF wait x c1 (n + 1) (.tried false) → (@LT.lt Nat _ zz al) → (@LT.lt Nat _ al at_) → (@LT.lt Nat _ c1.awc at_) → (∀ y ∈ CL x c1, y.1 ≠ al) → (∀ y ∈ CL x c1, y.1 ≠ at_) → (∀ y ∈ CL x c1, y.1 ≠ zz) → Fr h₀ L h1 m → News h₀ L h1 ((at_, { cls := .type "tuple", data := .seq #[.str (Str.ofString "path_challenge") u5, .bytes (chal n) u6] }) :: (al, listOf #[.ref at_] n3) :: (zz, oz) :: CL x c1) → News h₀ L h1 rest → Q (.ref al) { s with heap := h1, toks := tk1 }) :
    wpAny (model PySem.Challenge.rw_pf0276_01.row.toRowW.prog w) (ktrTop dp un gd cn cs L a ccd cl outer) (call (.ref 26) [.ref x.ac, .int now tnow]) Q E s := by
  have nd : (((zz, oz) :: CL x c).map (·.1)).Nodup := cons_nd (cl_nd cf) hz
  have cfn := cf.hn
  obtain ⟨tch, hchg⟩ := cf.challenged
  obtain ⟨th, hadr⟩ := cf.haddress
  obtain ⟨thS, hst⟩ := cf.hstate
  obtain ⟨tw, wadr⟩ := cf.waddress
  obtain ⟨⟨ts, p1⟩, p2, p3, p4, p5, p6, hn0⟩ := ph
  have S1 : SubL ([(x.ac, instObj 449 x.dc), (x.dc, dictOf c.ec c.nc), (x.fpw, kla_obj x.ln1 x.qn1 x.pa1 x.b1 x.sc1 x.cl1 x.pm1 x.c1 x.ct1), (x.c1, x.oc1), (x.acw, x.ocw), (x.fch, kla_obj x.ln2 x.qn2 x.pa2 x.b2 x.sc2 x.cl2 x.pm2 x.c2 x.ct2), (x.c2, x.oc2), (x.as_, instObj 449 x.ds), (x.ds, dictOf x.es x.ns), (x.ap, instObj 282 x.dP), (x.dP, dictOf c.eP c.nP), (x.aw, instObj 167 x.dw), (x.dw, dictOf c.ew c.nw), (c.awc, listOf c.vs.toArray c.nwc), (c.aa, listOf #[] c.na), (zz, oz)] : List (Addr × Obj)) ((zz, oz) :: CL x c) := ⟨.tail _ (.head _), .tail _ (.tail _ (.head _)), .tail _ (.tail _ (.tail _ (.head _))), .tail _ (.tail _ (.tail _ (.tail _ (.head _)))), .tail _ (.tail _ (.tail _ (.tail _ (.tail _ (.head _))))), .tail _ (.tail _ (.tail _ (.tail _ (.tail _ (.tail _ (.head _)))))), .tail _ (.tail _ (.tail _ (.tail _ (.tail _ (.tail _ (.tail _ (.head _))))))), .tail _ (.tail _ (.tail _ (.tail _ (.tail _ (.tail _ (.tail _ (.tail _ (.head _)))))))), .tail _ (.tail _ (.tail _ (.tail _ (.tail _ (.tail _ (.tail _ (.tail _ (.tail _ (.head _))))))))), .tail _ (.tail _ (.tail _ (.tail _ (.tail _ (.tail _ (.tail _ (.tail _ (.tail _ (.tail _ (.head _)))))))))), .tail _ (.tail _ (.tail _ (.tail _ (.tail _ (.tail _ (.tail _ (.tail _ (.tail _ (.tail _ (.tail _ (.head _))))))))))), .tail _ (.tail _ (.tail _ (.tail _ (.tail _ (.tail _ (.tail _ (.tail _ (.tail _ (.tail _ (.tail _ (.tail _ (.tail _ (.tail _ (.tail _ (.tail _ (.head _)))))))))))))))), .tail _ (.tail _ (.tail _ (.tail _ (.tail _ (.tail _ (.tail _ (.tail _ (.tail _ (.tail _ (.tail _ (.tail _ (.tail _ (.tail _ (.tail _ (.tail _ (.tail _ (.head _))))))))))))))))), .tail _ (.tail _ (.tail _ (.tail _ (.tail _ (.tail _ (.tail _ (.tail _ (.tail _ (.tail _ (.tail _ (.tail _ (.tail _ (.tail _ (.tail _ (.tail _ (.tail _ (.tail _ (.head _)))))))))))))))))), .tail _ (.tail _ (.tail _ (.tail _ (.tail _ (.tail _ (.tail _ (.tail _ (.tail _ (.tail _ (.tail _ (.tail _ (.tail _ (.tail _ (.tail _ (.tail _ (.tail _ (.tail _ (.tail _ (.head _))))))))))))))))))), .head _, trivial⟩
  have P : Part (((zz, oz) :: CL x c) ++ rest) ([(x.ac, instObj 449 x.dc), (x.dc, dictOf c.ec c.nc), (x.fpw, kla_obj x.ln1 x.qn1 x.pa1 x.b1 x.sc1 x.cl1 x.pm1 x.c1 x.ct1), (x.c1, x.oc1), (x.acw, x.ocw), (x.fch, kla_obj x.ln2 x.qn2 x.pa2 x.b2 x.sc2 x.cl2 x.pm2 x.c2 x.ct2), (x.c2, x.oc2), (x.as_, instObj 449 x.ds), (x.ds, dictOf x.es x.ns), (x.ap, instObj 282 x.dP), (x.dP, dictOf c.eP c.nP), (x.aw, instObj 167 x.dw), (x.dw, dictOf c.ew c.nw), (c.awc, listOf c.vs.toArray c.nwc), (c.aa, listOf #[] c.na), (zz, oz)] : List (Addr × Obj)) (([(x.ak, listOf #[.ref x.ah, .ref x.aw] x.nk), (x.ah, instObj 167 x.dh), (x.dh, dictOf x.eh x.nh), (x.ahc, listOf #[] x.nhc), (x.ao, listOf #[] x.no), (x.pt, tabObj x.ps)] : List (Addr × Obj)) ++ rest) := Part.mask [true, true, true, true, true, true, true, true, true, true, true, true, false, false, false, false, true, true, true, true, false, false] nd apart (SubL.mem (l := [(x.ac, instObj 449 x.dc), (x.dc, dictOf c.ec c.nc), (x.fpw, kla_obj x.ln1 x.qn1 x.pa1 x.b1 x.sc1 x.cl1 x.pm1 x.c1 x.ct1), (x.c1, x.oc1), (x.acw, x.ocw), (x.fch, kla_obj x.ln2 x.qn2 x.pa2 x.b2 x.sc2 x.cl2 x.pm2 x.c2 x.ct2), (x.c2, x.oc2), (x.as_, instObj 449 x.ds), (x.ds, dictOf x.es x.ns), (x.ap, instObj 282 x.dP), (x.dP, dictOf c.eP c.nP), (x.aw, instObj 167 x.dw), (x.dw, dictOf c.ew c.nw), (c.awc, listOf c.vs.toArray c.nwc), (c.aa, listOf #[] c.na), (zz, oz)]) ⟨.tail _ (.head _), .tail _ (.tail _ (.head _)), .tail _ (.tail _ (.tail _ (.head _))), .tail _ (.tail _ (.tail _ (.tail _ (.head _)))), .tail _ (.tail _ (.tail _ (.tail _ (.tail _ (.head _))))), .tail _ (.tail _ (.tail _ (.tail _ (.tail _ (.tail _ (.head _)))))), .tail _ (.tail _ (.tail _ (.tail _ (.tail _ (.tail _ (.tail _ (.head _))))))), .tail _ (.tail _ (.tail _ (.tail _ (.tail _ (.tail _ (.tail _ (.tail _ (.head _)))))))), .tail _ (.tail _ (.tail _ (.tail _ (.tail _ (.tail _ (.tail _ (.tail _ (.tail _ (.head _))))))))), .tail _ (.tail _ (.tail _ (.tail _ (.tail _ (.tail _ (.tail _ (.tail _ (.tail _ (.tail _ (.head _)))))))))), .tail _ (.tail _ (.tail _ (.tail _ (.tail _ (.tail _ (.tail _ (.tail _ (.tail _ (.tail _ (.tail _ (.head _))))))))))), .tail _ (.tail _ (.tail _ (.tail _ (.tail _ (.tail _ (.tail _ (.tail _ (.tail _ (.tail _ (.tail _ (.tail _ (.head _)))))))))))), .tail _ (.tail _ (.tail _ (.tail _ (.tail _ (.tail _ (.tail _ (.tail _ (.tail _ (.tail _ (.tail _ (.tail _ (.tail _ (.head _))))))))))))), .tail _ (.tail _ (.tail _ (.tail _ (.tail _ (.tail _ (.tail _ (.tail _ (.tail _ (.tail _ (.tail _ (.tail _ (.tail _ (.tail _ (.head _)))))))))))))), .tail _ (.tail _ (.tail _ (.tail _ (.tail _ (.tail _ (.tail _ (.tail _ (.tail _ (.tail _ (.tail _ (.tail _ (.tail _ (.tail _ (.tail _ (.head _))))))))))))))), .head _, trivial⟩) (SubL.mem (l := [(x.ak, listOf #[.ref x.ah, .ref x.aw] x.nk), (x.ah, instObj 167 x.dh), (x.dh, dictOf x.eh x.nh), (x.ahc, listOf #[] x.nhc), (x.ao, listOf #[] x.no), (x.pt, tabObj x.ps)]) ⟨.head _, .tail _ (.head _), .tail _ (.tail _ (.head _)), .tail _ (.tail _ (.tail _ (.head _))), .tail _ (.tail _ (.tail _ (.tail _ (.head _)))), .tail _ (.tail _ (.tail _ (.tail _ (.tail _ (.head _))))), trivial⟩)
  refine' frames_first (ap := x.ap) (dP := x.dP) (ak := x.ak) (ah := x.ah) (dh := x.dh) (ahc := x.ahc) (aw := x.aw) (dw := x.dw) (awc := c.awc) (eP := c.eP) (eh := x.eh) (ew := c.ew) (nP := c.nP) (nk := x.nk) (nh := x.nh) (nhc := x.nhc) (nw := c.nw) (nwc := c.nwc) (vs := c.vs) (bs := c.bs) (ac := x.ac) (dc := x.dc) (ec := c.ec) (nc := c.nc) (fpw := x.fpw) (fch := x.fch) (as_ := x.as_) (ds := x.ds) (acw := x.acw) (aa := c.aa) (es := x.es) (ns := x.ns) (na := c.na) (ln1 := x.ln1) (ln2 := x.ln2) (qn1 := x.qn1) (qn2 := x.qn2) (pa1 := x.pa1) (pa2 := x.pa2) (b1 := x.b1) (b2 := x.b2) (sc1 := x.sc1) (sc2 := x.sc2) (cl1 := x.cl1) (cl2 := x.cl2) (pm1 := x.pm1) (pm2 := x.pm2) (ct1 := x.ct1) (ct2 := x.ct2) (c1 := x.c1) (c2 := x.c2) (oc1 := x.oc1) (oc2 := x.oc2) (ocw := x.ocw) (n := (n : Int)) (bw := chal n) B F X T hk (newsSub N₁ S1) (P.news (newsApp N₁ N₂)) P.apart (cf.aP) (cf.aH) (cf.aW) (cf.hv) (cf.known) (cf.hchal) (cf.wchal) (cf.aC) ((by omega)) (cf.aS) (cf.paths) (cf.shake) (hchg) (cf.probe) (cf.choose) (cf.complete) (cf.answers) (cf.hPr) (fun t1 t2 t3 => cf.hCh n t1 t2 t3 (by omega)) (CH) (cf.mwc) (hadr) (wadr) (fo_ord cf) (haa4 cf) (hzz) (cf.wchallenge) (p5) (p1) (p2) (p3) (by omega) (by omega) ?rt
  all_goals (try first | exact Value.none | exact (0 : Nat) | exact (0 : Int) | exact (#[] : Array UInt8))
  rintro q1 q2 q3 q4 q5 q6 q7 u1 u2 u4 u5 u6 an al at_ nP2 nc2 nw2 n2 n3 n4 am q0 u7 h1 tk1 hl2 ⟨f0, f1, f2, f3, f4⟩ F1 N1 R1
  have hla : @LT.lt Nat _ c.awc an := by omega
  have hwa : am ≠ an := Nat.ne_of_gt f3
  have Aec1 : AbsD (putL "challenged" (PyData.keyHash w.params "challenged") (.str "challenged" q2) (.int (n + 1) u1) c.ec) (40 + n) := AbsD.put_old cf.aC (hchg) _ _ _
  have Aec2 : AbsD (putL "again_at" (PyData.keyHash w.params "again_at") (.str "again_at" q3) (.int (now + wait) u2) (putL "challenged" (PyData.keyHash w.params "challenged") (.str "challenged" q2) (.int (n + 1) u1) c.ec)) (40 + n+1) := AbsD.put Aec1 _ _ _ _
  have AeP1 : AbsD (putL "answers" (PyData.keyHash w.params "answers") (.str "answers" q1) (.ref an) c.eP) (20) := AbsD.put_old cf.aP (cf.answers) _ _ _
  have Aew1 : AbsD (putL "state" (PyData.keyHash w.params "state") (.str "state" q5) (.str (Str.ofString "trying") q0) c.ew) (20) := AbsD.put_old cf.aW (p1) _ _ _
  have Aew2 : AbsD (putL "challenges" (PyData.keyHash w.params "challenges") (.str "challenges" q6) (.ref am) (putL "state" (PyData.keyHash w.params "state") (.str "state" q5) (.str (Str.ofString "trying") q0) c.ew)) (20) := AbsD.put_old Aew1 (gOther cf.aW (by decide) (cf.wchal)) _ _ _
  have Aew3 : AbsD (putL "deadline" (PyData.keyHash w.params "deadline") (.str "deadline" q7) (.int (now + 3 * wait) u7) (putL "challenges" (PyData.keyHash w.params "challenges") (.str "challenges" q6) (.ref am) (putL "state" (PyData.keyHash w.params "state") (.str "state" q5) (.str (Str.ofString "trying") q0) c.ew))) (20) := AbsD.put_old Aew2 (gOther Aew1 (by decide) (gOther cf.aW (by decide) (p3))) _ _ _
  have Aew4 : AbsD (putL "wants_more" (PyData.keyHash w.params "wants_more") (.str "wants_more" q4) (.bool false) (putL "deadline" (PyData.keyHash w.params "deadline") (.str "deadline" q7) (.int (now + 3 * wait) u7) (putL "challenges" (PyData.keyHash w.params "challenges") (.str "challenges" q6) (.ref am) (putL "state" (PyData.keyHash w.params "state") (.str "state" q5) (.str (Str.ofString "trying") q0) c.ew)))) (20) := AbsD.put_old Aew3 (gOther Aew2 (by decide) (gOther Aew1 (by decide) (gOther cf.aW (by decide) (p2)))) _ _ _
  have cf1 : CF w wait x { c with aa := an, na := n2, awc := am, nwc := n4, vs := [Value.bytes (chal n) u4], bs := [chal n], ec := (putL "again_at" (PyData.keyHash w.params "again_at") (.str "again_at" q3) (.int (now + wait) u2) (putL "challenged" (PyData.keyHash w.params "challenged") (.str "challenged" q2) (.int (n + 1) u1) c.ec)), nc := nc2, eP := (putL "answers" (PyData.keyHash w.params "answers") (.str "answers" q1) (.ref an) c.eP), nP := nP2, ew := (putL "wants_more" (PyData.keyHash w.params "wants_more") (.str "wants_more" q4) (.bool false) (putL "deadline" (PyData.keyHash w.params "deadline") (.str "deadline" q7) (.int (now + 3 * wait) u7) (putL "challenges" (PyData.keyHash w.params "challenges") (.str "challenges" q6) (.ref am) (putL "state" (PyData.keyHash w.params "state") (.str "state" q5) (.str (Str.ofString "trying") q0) c.ew)))), nw := nw2 } (n + 1) := { aC := Aec2, aS := cf.aS, aP := AeP1, aH := cf.aH, aW := Aew4, hv := .cons _ _ .nil, hn := (by omega), hvl := Nat.le_of_ble_eq_true rfl, paths := gOther Aec1 (by decide) (gOther cf.aC (by decide) (cf.paths)), shake := gOther Aec1 (by decide) (gOther cf.aC (by decide) (cf.shake)), challenged := ⟨_, gOther Aec1 (by decide) (getL_same' _ cf.aC _ _ _)⟩, probe := gOther Aec1 (by decide) (gOther cf.aC (by decide) (cf.probe)), choose := gOther Aec1 (by decide) (gOther cf.aC (by decide) (cf.choose)), owed := gOther Aec1 (by decide) (gOther cf.aC (by decide) (cf.owed)), complete := cf.complete, known := gOther cf.aP (by decide) (cf.known), answers := getL_same' _ cf.aP _ _ _, mwc := gOther cf.aP (by decide) (cf.mwc), mol := gOther cf.aP (by decide) (cf.mol), mtr := gOther cf.aP (by decide) (cf.mtr), mnt := gOther cf.aP (by decide) (cf.mnt), mot := gOther cf.aP (by decide) (cf.mot), haddress := cf.haddress, hstate := cf.hstate, hfree := cf.hfree, hchal := cf.hchal, hdead := cf.hdead, his := cf.his, waddress := ⟨_, gOther Aew3 (by decide) (gOther Aew2 (by decide) (gOther Aew1 (by decide) (gOther cf.aW (by decide) (wadr))))⟩, wchal := gOther Aew3 (by decide) (gOther Aew2 (by decide) (getL_same' _ Aew1 _ _ _)), wprove := gOther Aew3 (by decide) (gOther Aew2 (by decide) (gOther Aew1 (by decide) (gOther cf.aW (by decide) (cf.wprove)))), wfail := gOther Aew3 (by decide) (gOther Aew2 (by decide) (gOther Aew1 (by decide) (gOther cf.aW (by decide) (cf.wfail)))), wchallenge := gOther Aew3 (by decide) (gOther Aew2 (by decide) (gOther Aew1 (by decide) (gOther cf.aW (by decide) (cf.wchallenge)))), wis := gOther Aew3 (by decide) (gOther Aew2 (by decide) (gOther Aew1 (by decide) (gOther cf.aW (by decide) (cf.wis)))), hPr := cf.hPr, hCh := cf.hCh, ho := ho_awc (z := am) cf (by omega), haa := haa_of cf hla hwa }
  have ph1 : PhF wait x { c with aa := an, na := n2, awc := am, nwc := n4, vs := [Value.bytes (chal n) u4], bs := [chal n], ec := (putL "again_at" (PyData.keyHash w.params "again_at") (.str "again_at" q3) (.int (now + wait) u2) (putL "challenged" (PyData.keyHash w.params "challenged") (.str "challenged" q2) (.int (n + 1) u1) c.ec)), nc := nc2, eP := (putL "answers" (PyData.keyHash w.params "answers") (.str "answers" q1) (.ref an) c.eP), nP := nP2, ew := (putL "wants_more" (PyData.keyHash w.params "wants_more") (.str "wants_more" q4) (.bool false) (putL "deadline" (PyData.keyHash w.params "deadline") (.str "deadline" q7) (.int (now + 3 * wait) u7) (putL "challenges" (PyData.keyHash w.params "challenges") (.str "challenges" q6) (.ref am) (putL "state" (PyData.keyHash w.params "state") (.str "state" q5) (.str (Str.ofString "trying") q0) c.ew)))), nw := nw2 } (n + 1) (.tried false) := ⟨⟨_, gOther Aew3 (by decide) (gOther Aew2 (by decide) (gOther Aew1 (by decide) (getL_same' _ cf.aW _ _ _)))⟩, getL_same' _ Aew3 _ _ _, ⟨_, Eq.trans (gOther Aew3 (by decide) (getL_same' _ Aew2 _ _ _)) (by rw [hnow, Int.zero_add])⟩, gOther Aew3 (by decide) (gOther Aew2 (by decide) (gOther Aew1 (by decide) (gOther cf.aW (by decide) (p4)))), gOther cf.aP (by decide) (p5), gOther cf.aP (by decide) (p6), (by rw [hn0]; rfl)⟩
  have apartC : ∀ q ∈ rest, q.1 ∉ (CL x c).map (·.1) := apart_tl (apart)
  exact ret al at_ n3 u5 u6 { c with aa := an, na := n2, awc := am, nwc := n4, vs := [Value.bytes (chal n) u4], bs := [chal n], ec := (putL "again_at" (PyData.keyHash w.params "again_at") (.str "again_at" q3) (.int (now + wait) u2) (putL "challenged" (PyData.keyHash w.params "challenged") (.str "challenged" q2) (.int (n + 1) u1) c.ec)), nc := nc2, eP := (putL "answers" (PyData.keyHash w.params "answers") (.str "answers" q1) (.ref an) c.eP), nP := nP2, ew := (putL "wants_more" (PyData.keyHash w.params "wants_more") (.str "wants_more" q4) (.bool false) (putL "deadline" (PyData.keyHash w.params "deadline") (.str "deadline" q7) (.int (now + 3 * wait) u7) (putL "challenges" (PyData.keyHash w.params "challenges") (.str "challenges" q6) (.ref am) (putL "state" (PyData.keyHash w.params "state") (.str "state" q5) (.str (Str.ofString "trying") q0) c.ew)))), nw := nw2 } h1 tk1 (OffAll.cons (fun q hq => hl2 _ (.tail _ (.tail _ (.tail _ (.tail _ (.tail _ (.tail _ (.tail _ (.tail _ (.tail _ (.tail _ (.tail _ (.tail _ (.tail _ (.tail _ (.tail _ (.head _)))))))))))))))) q (List.mem_append_right _ hq)) (OffAll.cons (fun q hq => hl2 _ (.tail _ (.tail _ (.tail _ (.tail _ (.tail _ (.tail _ (.tail _ (.tail _ (.tail _ (.tail _ (.tail _ (.tail _ (.tail _ (.tail _ (.tail _ (.tail _ (.head _))))))))))))))))) q (List.mem_append_right _ hq)) (OffAll.cons (fun q hq => hl2 _ (.tail _ (.tail _ (.tail _ (.tail _ (.tail _ (.tail _ (.tail _ (.tail _ (.tail _ (.tail _ (.tail _ (.tail _ (.tail _ (.tail _ (.tail _ (.tail _ (.tail _ (.head _)))))))))))))))))) q (List.mem_append_right _ hq)) (cl_off apartC (fun q hq => hl2 _ (.tail _ (.tail _ (.tail _ (.tail _ (.tail _ (.tail _ (.tail _ (.tail _ (.tail _ (.tail _ (.tail _ (.tail _ (.tail _ (.head _)))))))))))))) q (List.mem_append_right _ hq)) (fun q hq => hl2 _ (.tail _ (.tail _ (.tail _ (.tail _ (.tail _ (.tail _ (.tail _ (.tail _ (.tail _ (.tail _ (.tail _ (.tail _ (.tail _ (.tail _ (.head _))))))))))))))) q (List.mem_append_right _ hq)))))) cf1 ph1 (f1) (by omega) (by (try dsimp only); omega) (cl_ne (c' := { c with aa := an, na := n2, awc := am, nwc := n4, vs := [Value.bytes (chal n) u4], bs := [chal n], ec := (putL "again_at" (PyData.keyHash w.params "again_at") (.str "again_at" q3) (.int (now + wait) u2) (putL "challenged" (PyData.keyHash w.params "challenged") (.str "challenged" q2) (.int (n + 1) u1) c.ec)), nc := nc2, eP := (putL "answers" (PyData.keyHash w.params "answers") (.str "answers" q1) (.ref an) c.eP), nP := nP2, ew := (putL "wants_more" (PyData.keyHash w.params "wants_more") (.str "wants_more" q4) (.bool false) (putL "deadline" (PyData.keyHash w.params "deadline") (.str "deadline" q7) (.int (now + 3 * wait) u7) (putL "challenges" (PyData.keyHash w.params "challenges") (.str "challenges" q6) (.ref am) (putL "state" (PyData.keyHash w.params "state") (.str "state" q5) (.str (Str.ofString "trying") q0) c.ew)))), nw := nw2 }) cf f0 (Nat.ne_of_gt (by (try dsimp only); omega)) (Nat.ne_of_gt f2)) (cl_ne (c' := { c with aa := an, na := n2, awc := am, nwc := n4, vs := [Value.bytes (chal n) u4], bs := [chal n], ec := (putL "again_at" (PyData.keyHash w.params "again_at") (.str "again_at" q3) (.int (now + wait) u2) (putL "challenged" (PyData.keyHash w.params "challenged") (.str "challenged" q2) (.int (n + 1) u1) c.ec)), nc := nc2, eP := (putL "answers" (PyData.keyHash w.params "answers") (.str "answers" q1) (.ref an) c.eP), nP := nP2, ew := (putL "wants_more" (PyData.keyHash w.params "wants_more") (.str "wants_more" q4) (.bool false) (putL "deadline" (PyData.keyHash w.params "deadline") (.str "deadline" q7) (.int (now + 3 * wait) u7) (putL "challenges" (PyData.keyHash w.params "challenges") (.str "challenges" q6) (.ref am) (putL "state" (PyData.keyHash w.params "state") (.str "state" q5) (.str (Str.ofString "trying") q0) c.ew)))), nw := nw2 }) cf (by (try dsimp only); omega) (Nat.ne_of_lt (by (try dsimp only); omega)) (Nat.ne_of_lt (by (try dsimp only); omega))) (cl_ne (c' := { c with aa := an, na := n2, awc := am, nwc := n4, vs := [Value.bytes (chal n) u4], bs := [chal n], ec := (putL "again_at" (PyData.keyHash w.params "again_at") (.str "again_at" q3) (.int (now + wait) u2) (putL "challenged" (PyData.keyHash w.params "challenged") (.str "challenged" q2) (.int (n + 1) u1) c.ec)), nc := nc2, eP := (putL "answers" (PyData.keyHash w.params "answers") (.str "answers" q1) (.ref an) c.eP), nP := nP2, ew := (putL "wants_more" (PyData.keyHash w.params "wants_more") (.str "wants_more" q4) (.bool false) (putL "deadline" (PyData.keyHash w.params "deadline") (.str "deadline" q7) (.int (now + 3 * wait) u7) (putL "challenges" (PyData.keyHash w.params "challenges") (.str "challenges" q6) (.ref am) (putL "state" (PyData.keyHash w.params "state") (.str "state" q5) (.str (Str.ofString "trying") q0) c.ew)))), nw := nw2 }) cf (by have := po_ord cf; omega) (Nat.ne_of_gt (by (try dsimp only); omega)) (Nat.ne_of_gt (by (try dsimp only); omega))) F1 (newsSub (newsApp N1 R1) ⟨.tail _ (.tail _ (.tail _ (.tail _ (.tail _ (.tail _ (.tail _ (.tail _ (.tail _ (.tail _ (.tail _ (.tail _ (.tail _ (.tail _ (.tail _ (.head _))))))))))))))), .tail _ (.tail _ (.tail _ (.tail _ (.tail _ (.tail _ (.tail _ (.tail _ (.tail _ (.tail _ (.tail _ (.tail _ (.tail _ (.tail _ (.tail _ (.tail _ (.head _)))))))))))))))), .tail _ (.tail _ (.tail _ (.tail _ (.tail _ (.tail _ (.tail _ (.tail _ (.tail _ (.tail _ (.tail _ (.tail _ (.tail _ (.tail _ (.tail _ (.tail _ (.tail _ (.head _))))))))))))))))), .head _, .tail _ (.head _), .tail _ (.tail _ (.head _)), .tail _ (.tail _ (.tail _ (.head _))), .tail _ (.tail _ (.tail _ (.tail _ (.head _)))), .tail _ (.tail _ (.tail _ (.tail _ (.tail _ (.head _))))), .tail _ (.tail _ (.tail _ (.tail _ (.tail _ (.tail _ (.head _)))))), .tail _ (.tail _ (.tail _ (.tail _ (.tail _ (.tail _ (.tail _ (.head _))))))), .tail _ (.tail _ (.tail _ (.tail _ (.tail _ (.tail _ (.tail _ (.tail _ (.head _)))))))), .tail _ (.tail _ (.tail _ (.tail _ (.tail _ (.tail _ (.tail _ (.tail _ (.tail _ (.head _))))))))), .tail _ (.tail _ (.tail _ (.tail _ (.tail _ (.tail _ (.tail _ (.tail _ (.tail _ (.tail _ (.head _)))))))))), .tail _ (.tail _ (.tail _ (.tail _ (.tail _ (.tail _ (.tail _ (.tail _ (.tail _ (.tail _ (.tail _ (.tail _ (.tail _ (.tail _ (.tail _ (.tail _ (.tail _ (.tail _ (.head _)))))))))))))))))), .tail _ (.tail _ (.tail _ (.tail _ (.tail _ (.tail _ (.tail _ (.tail _ (.tail _ (.tail _ (.tail _ (.tail _ (.tail _ (.tail _ (.tail _ (.tail _ (.tail _ (.tail _ (.tail _ (.head _))))))))))))))))))), .tail _ (.tail _ (.tail _ (.tail _ (.tail _ (.tail _ (.tail _ (.tail _ (.tail _ (.tail _ (.tail _ (.tail _ (.tail _ (.tail _ (.tail _ (.tail _ (.tail _ (.tail _ (.tail _ (.tail _ (.head _)))))))))))))))))))), .tail _ (.tail _ (.tail _ (.tail _ (.tail _ (.tail _ (.tail _ (.tail _ (.tail _ (.tail _ (.tail _ (.tail _ (.tail _ (.tail _ (.tail _ (.tail _ (.tail _ (.tail _ (.tail _ (.tail _ (.tail _ (.head _))))))))))))))))))))), .tail _ (.tail _ (.tail _ (.tail _ (.tail _ (.tail _ (.tail _ (.tail _ (.tail _ (.tail _ (.tail _ (.head _))))))))))), .tail _ (.tail _ (.tail _ (.tail _ (.tail _ (.tail _ (.tail _ (.tail _ (.tail _ (.tail _ (.tail _ (.tail _ (.head _)))))))))))), .tail _ (.tail _ (.tail _ (.tail _ (.tail _ (.tail _ (.tail _ (.tail _ (.tail _ (.tail _ (.tail _ (.tail _ (.tail _ (.head _))))))))))))), .tail _ (.tail _ (.tail _ (.tail _ (.tail _ (.tail _ (.tail _ (.tail _ (.tail _ (.tail _ (.tail _ (.tail _ (.tail _ (.tail _ (.head _)))))))))))))), .tail _ (.tail _ (.tail _ (.tail _ (.tail _ (.tail _ (.tail _ (.tail _ (.tail _ (.tail _ (.tail _ (.tail _ (.tail _ (.tail _ (.tail _ (.tail _ (.tail _ (.tail _ (.tail _ (.tail _ (.tail _ (.tail _ (.head _)))))))))))))))))))))), .tail _ (.tail _ (.tail _ (.tail _ (.tail _ (.tail _ (.tail _ (.tail _ (.tail _ (.tail _ (.tail _ (.tail _ (.tail _ (.tail _ (.tail _ (.tail _ (.tail _ (.tail _ (.tail _ (.tail _ (.tail _ (.tail _ (.tail _ (.head _))))))))))))))))))))))), trivial⟩) (fun q hq => R1 q (List.mem_append_right _ hq))
theorem space_call {w : World} {p : Program} {loose : List Str} {mean : ExcName → Option Value} {mg mb : Str → Option Value} {dp un : Nat} {gd : Option (List Code)} {cn : Str} {cs : Scope} {a : Addr} {ccd : Value} {cl : List (Str × Addr)} {outer : List Env} {A₀ : Around} {base h₀ : Heap} {L : Addr} {m : Str → Option Value} {s : Shared} {Q E : Value → Shared → Prop} {news : List (Addr × Obj)} {nm : Str} {tn : Tok}
    (B : Below A₀ base outer h₀) (F : Fr h₀ L s.heap m) (X : (hd.heap_1 w.params).In h₀) (T : Top p loose mean mg mb h₀) (hk : cs.kind = .function)
    (N : News h₀ L s.heap news) (hdp : dp + 10 < recursionLimit) (hun : un + 200 < cLine)
    (ret : ∀ (x d : Addr) (ec : List DictEntry) (nc : Nat) (h' : Heap) (tk' : Nat), AbsD ec 20 → (∀ p ∈ news, p.1 < d) → @LT.lt Nat _ d x → Fr h₀ L h' m → News h₀ L h' ((x, instObj 449 d) :: (d, dictOf ec nc) :: news) → Q (.ref x) { s with heap := h', toks := tk' }) :
    wpAny (model PySem.Challenge.rw_pf0276_01.row.toRowW.prog w) (ktrTop dp un gd cn cs L a ccd cl outer) (call (.ref 449) [.str nm tn]) Q E s := by
  have X1 := X
  revert X; k_fill; intro X
  k_dflt (refine' call_cls ?k1 ?k2 ?k3 ?k4 ?k5 ?k6 ?_)
  case k1 => k_asm
  case k2 => k_asm
  case k3 => k_asm
  case k4 => k_is
  case k5 => k_is
  case k6 => k_is
  intro x d h' F' N' l1 l2
  refine space_init (E := E) (Q := Q) (s := { s with heap := h', toks := s.toks }) (rest := news) B F' X1 T hk (fun q hq => N' q ?_) (fun q hq => N' q (.tail _ (.tail _ hq))) ?_ l2 (by omega) (by omega) ?_
  · rcases List.mem_cons.mp hq with rfl | hq
    · exact .head _
    · rw [List.mem_singleton.mp hq]; exact .tail _ (.head _)
  · intro q hq hm
    have := l1 q hq
    simp only [List.map_cons, List.map_nil, List.mem_cons, List.not_mem_nil, or_false] at hm
    rcases hm with e | e
    · rw [e] at this; exact Nat.lt_asymm this l2
    · rw [e] at this; exact Nat.lt_irrefl _ this
  · intro ec nc h2 tk2 _ a F2 N2 R2
    refine ⟨rfl, ret x d ec nc h2 tk2 a l1 l2 F2 fun q hq => ?_⟩
    rcases List.mem_cons.mp hq with rfl | hq
    · exact N2 _ (.head _)
    · rcases List.mem_cons.mp hq with rfl | hq
      · exact N2 _ (.tail _ (.head _))
      · exact R2 _ hq
theorem paths_call {w : World} {p : Program} {loose : List Str} {mean : ExcName → Option Value} {mg mb : Str → Option Value} {dp un : Nat} {gd : Option (List Code)} {cn : Str} {cs : Scope} {a : Addr} {ccd : Value} {cl : List (Str × Addr)} {outer : List Env} {A₀ : Around} {base h₀ : Heap} {L : Addr} {m : Str → Option Value} {s : Shared} {Q E : Value → Shared → Prop} {news : List (Addr × Obj)} {t1 t2 : Tok}
    (B : Below A₀ base outer h₀) (F : Fr h₀ L s.heap m) (X : (hd.heap_1 w.params).In h₀) (T : Top p loose mean mg mb h₀) (hk : cs.kind = .function)
    (N : News h₀ L s.heap news) (hdp : dp + 10 < recursionLimit) (hun : un + 200 < cLine)
    (ret : ∀ (xx dx : Addr) (eP : List DictEntry) (eh : List DictEntry) (ak : Addr) (ah : Addr) (dh : Addr) (ahc : Addr) (aa : Addr) (nP : Nat) (nk : Nat) (nh : Nat) (nhc : Nat) (na : Nat) (qh : Tok) (qs : Tok) (h' : Heap) (tk' : Nat), (∀ p ∈ news, p.1 < dx) → AbsD eP 20 ∧ AbsD eh 20 ∧ getL "role" eP = some (some (.str (Str.ofString "server") t1)) ∧ getL "may_move" eP = some (some (.bool true)) ∧ getL "known" eP = some (some (.ref ak)) ∧ getL "active" eP = some (some (.ref ah)) ∧ getL "last_proven" eP = some (some (.ref ah)) ∧ getL "highest" eP = some (some (.int (-1) qh)) ∧ getL "answers" eP = some (some (.ref aa)) ∧ getL "path_of" eP = some none ∧ getL "opened" eP = some none ∧ getL "on_datagram" eP = some none ∧ getL "on_packet" eP = some none ∧ getL "wants_challenge" eP = some none ∧ getL "on_challenge_lost" eP = some none ∧ getL "take_response" eP = some none ∧ getL "next_time" eP = some none ∧ getL "on_time" eP = some none ∧ getL "address" eh = some (some (.str (Str.ofString "home") t2)) ∧ getL "state" eh = some (some (.str (Str.ofString "proven") qs)) ∧ getL "is_free" eh = some (some (.bool true)) ∧ getL "challenges" eh = some (some (.ref ahc)) ∧ getL "deadline" eh = some (some (.none)) ∧ getL "is_proven" eh = some none ∧ @LT.lt Nat _ dx xx ∧ @LT.lt Nat _ xx dh ∧ @LT.lt Nat _ dh ah ∧ @LT.lt Nat _ ah ahc ∧ @LT.lt Nat _ ahc ak ∧ @LT.lt Nat _ ak aa → Fr h₀ L h' m → News h₀ L h' ((xx, instObj 282 dx) :: (dx, dictOf eP nP) :: (ak, listOf #[.ref ah] nk) :: (ah, instObj 167 dh) :: (dh, dictOf eh nh) :: (ahc, listOf #[] nhc) :: (aa, listOf #[] na) :: news) → Q (.ref xx) { s with heap := h', toks := tk' }) :
    wpAny (model PySem.Challenge.rw_pf0276_01.row.toRowW.prog w) (ktrTop dp un gd cn cs L a ccd cl outer) (call (.ref 282) [.str (Str.ofString "server") t1, .str (Str.ofString "home") t2, .bool true, .bool true]) Q E s := by
  have X1 := X
  revert X; k_fill; intro X
  k_dflt (refine' call_cls ?k1 ?k2 ?k3 ?k4 ?k5 ?k6 ?_)
  case k1 => k_asm
  case k2 => k_asm
  case k3 => k_asm
  case k4 => k_is
  case k5 => k_is
  case k6 => k_is
  intro x d h' F' N' l1 l2
  refine paths_init (E := E) (Q := Q) (s := { s with heap := h', toks := s.toks }) (rest := news) B F' X1 T hk (fun q hq => N' q ?_) (fun q hq => N' q (.tail _ (.tail _ hq))) ?_ l2 (by omega) (by omega) ?_
  · rcases List.mem_cons.mp hq with rfl | hq
    · exact .head _
    · rw [List.mem_singleton.mp hq]; exact .tail _ (.head _)
  · intro q hq hm
    have := l1 q hq
    simp only [List.map_cons, List.map_nil, List.mem_cons, List.not_mem_nil, or_false] at hm
    rcases hm with e | e
    · rw [e] at this; exact Nat.lt_asymm this l2
    · rw [e] at this; exact Nat.lt_irrefl _ this
  · intro eP eh ak ah dh ahc aa nP nk nh nhc na qh qs h2 tk2 _ a F2 N2 R2
    exact ⟨rfl, ret x d eP eh ak ah dh ahc aa nP nk nh nhc na qh qs h2 tk2 l1 a F2 (newsApp N2 R2)⟩
set_option maxRecDepth 100000 in
set_option maxHeartbeats 1500000 in
theorem lam_probe {w : World} {wait : Int} {tw : Tok} {f c1 acw : Addr} {q : Str} {pm ct : Value} {oc ocw : Obj} {vs : Array Value} {tq : Tok} (d1 : oc.data = Data.fields vs) (d2 : vs[1]? = some (.str q tq)) (dc : ocw.data = Data.cell (some (.int wait tw))) :
    CallsTo w f [(f, kla_obj "<lambda>" q (lamA lam1) (lamB lam1) (lamS lam1) [("wait", acw)] pm c1 ct), (c1, oc), (acw, ocw)] [] (fun t => .int wait t) := by
  intro p loose mean mg mb A env outer A₀ base h₀ L m s Q E news B F X T hA hf hk hh N hs hd hu ret
  generalize hS : lamA lam1 = S at hs; conv at hS => lhs; whnf
  subst hS
  generalize hS : lamB lam1 = S at hs; conv at hS => lhs; whnf
  subst hS
  generalize hS : lamS lam1 = S at hs; conv at hS => lhs; whnf
  subst hS
  have m1 := hs.1
  have m2 := hs.2.1
  have m3 := hs.2.2.1
  clear hs
  have N0 := nc N m1 (nc N m2 (nc N m3 N))
  clear N m1 m2 m3
  obtain ⟨hand, dep, fram, gua, uni⟩ := A
  dsimp only at hA hh
  subst hA hh
  refine wpAny_call ?_
  revert X; k_fill; intro X
  refine' kla_code (binds := []) ?k1 ?k2 ?k3 ?k4 ?k5 ?kA ?kF ?kK ?k6 ?k7 ?k8 ?k9 ?kB ?_ ?c2 ?c3 ?c4 ?c5
  case kA => exact rfl
  case kF => exact hf
  case kK => exact hk
  case k1 => k_asm
  case k2 => k_asm
  case k3 => k_asm
  case k4 => k_asm
  case k5 => k_asm
  case k6 => exact .head _
  case k7 => exact codeRec_news (by k_asm) (.tail _ (.head _)) (by assumption) (by assumption)
  case k8 => ktr_room
  case k9 => exact rfl
  case c5 => decide
  case kB => exact locs rfl
  case c2 => exact rfl
  case c3 => exact rfl
  case c4 => exact rfl
  intro g' L' h' FG' F' N' B' X' T'
  refine' nameX_F N' ?c ?m ?d ?_ ?a ?b
  case a => rfl
  case b => rfl
  case c => rfl
  case m => exact .tail _ (.tail _ (.head _))
  case d => exact dc
  exact leaveK_ F' N' fun F1 N1 => ret tw _ _ F1 (nw1 (nw1 (nw1 N1)))
set_option maxRecDepth 100000 in
set_option maxHeartbeats 1500000 in
theorem lam_chal {w : World} {f c1 : Addr} {q : Str} {pm ct : Value} {oc : Obj} {vs : Array Value} {tq : Tok} (d1 : oc.data = Data.fields vs) (d2 : vs[1]? = some (.str q tq)) (k : Nat) (t1 t2 t3 : Tok) (hk60 : k ≤ 60) :
    CallsTo w f [(f, kla_obj "<lambda>" q (lamA lam2) (lamB lam2) (lamS lam2) [] pm c1 ct), (c1, oc)] [.str (Str.ofString "challenge") t1, .int (k : Int) t2, .int 8 t3] (fun t => .bytes (chal k) t) := by
  intro p loose mean mg mb A env outer A₀ base h₀ L m s Q E news B F X T hA hf hk hh N hs hd hu ret
  generalize hS : lamA lam2 = S at hs; conv at hS => lhs; whnf
  subst hS
  generalize hS : lamB lam2 = S at hs; conv at hS => lhs; whnf
  subst hS
  generalize hS : lamS lam2 = S at hs; conv at hS => lhs; whnf
  subst hS
  have m1 := hs.1
  have m2 := hs.2.1
  clear hs
  have N0 := nc N m1 (nc N m2 N)
  clear N m1 m2
  obtain ⟨hand, dep, fram, gua, uni⟩ := A
  dsimp only at hA hh
  subst hA hh
  refine wpAny_call ?_
  revert X; k_fill; intro X
  refine' kla_code (binds := [("sort", .str (Str.ofString "challenge") t1), ("number", .int (k : Int) t2), ("size", .int 8 t3)]) ?k1 ?k2 ?k3 ?k4 ?k5 ?kA ?kF ?kK ?k6 ?k7 ?k8 ?k9 ?kB ?_ ?c2 ?c3 ?c4 ?c5
  case kA => exact rfl
  case kF => exact hf
  case kK => exact hk
  case k1 => k_asm
  case k2 => k_asm
  case k3 => k_asm
  case k4 => k_asm
  case k5 => k_asm
  case k6 => exact .head _
  case k7 => exact codeRec_news (by k_asm) (.tail _ (.head _)) (by assumption) (by assumption)
  case k8 => ktr_room
  case k9 => exact rfl
  case c5 => decide
  case kB => exact locs rfl
  case c2 => exact rfl
  case c3 => exact rfl
  case c4 => exact rfl
  intro g' L' h' FG' F' N' B' X' T'
  try dsimp only
  w_top off
  k_with_none
  (k_with "call type:bytes" => (k_here; (with_reducible show wpAny _ _ (call (Value.type _) [Value.ref _]) _ _ _); k_dflt (refine' bytes_rep ?F ?N ?m ?v ?k ?h ?_; (case F | N => k_asm); (case m => k_mem); (case v => exact rfl); (case k => omega); (case h => with_unfolding_all rfl); k_whole); intro h'_w t'_w k'_w F'_w N'_w; (try k_sweep)))
  k_steps
  all_goals (refine' ret _ _ _ ?q0 ?q1; (case q0 => assumption); (case q1 => exact nw1 (nw1 (nw1 (nw1 (by assumption))))))
/-- what else is so at the start -/
structure P0 (x : Fx) (c : Ch) : Prop where
  role : ∃ t, getL "role" c.eP = some (some (.str (Str.ofString "server") t))
  active : getL "active" c.eP = some (some (.ref x.ah))
  last : getL "last_proven" c.eP = some (some (.ref x.ah))
  highest : ∃ t, getL "highest" c.eP = some (some (.int (-1) t))
  mpo : getL "path_of" c.eP = some none
  monp : getL "on_packet" c.eP = some none
  wrenew : getL "renew" c.ew = some none
  wstate : ∃ t, getL "state" c.ew = some (some (.str (Str.ofString "unproven") t))
  wmore : getL "wants_more" c.ew = some (some (.bool false))
  wdead : getL "deadline" c.ew = some (some .none)
  wfree : getL "is_free" c.ew = some (some (.bool false))
  nobs : c.bs = []
  tab : x.pt = 469
theorem haa_init {x : Fx} {awc aa : Addr} (ho : @LT.lt Nat _ x.pt x.acw ∧ @LT.lt Nat _ x.acw x.dc ∧ @LT.lt Nat _ x.dc x.ac ∧ @LT.lt Nat _ x.ac x.ds ∧ @LT.lt Nat _ x.ds x.as_ ∧ @LT.lt Nat _ x.as_ x.dP ∧ @LT.lt Nat _ x.dP x.ap ∧ @LT.lt Nat _ x.ap x.dh ∧ @LT.lt Nat _ x.dh x.ah ∧ @LT.lt Nat _ x.ah x.ahc ∧ @LT.lt Nat _ x.ahc x.ak ∧ @LT.lt Nat _ x.ak x.c1 ∧ @LT.lt Nat _ x.c1 x.fpw ∧ @LT.lt Nat _ x.fpw x.ao ∧ @LT.lt Nat _ x.ao x.c2 ∧ @LT.lt Nat _ x.c2 x.fch ∧ @LT.lt Nat _ x.fch x.dw ∧ @LT.lt Nat _ x.dw x.aw ∧ @LT.lt Nat _ x.aw awc)
    (h1 : @LT.lt Nat _ x.ak aa) (h2 : @LT.lt Nat _ aa x.c1) : ∀ q ∈ fixA x ++ [awc], q ≠ aa := by
  simp only [fixA, List.cons_append, List.nil_append, List.forall_mem_cons]
  repeat' (first | exact List.forall_mem_nil _ | refine And.intro ?_ ?_ | exact Nat.ne_of_lt (by omega) | exact Nat.ne_of_gt (by omega))
def lawSt (k : Nat) : Stmt := (lawBody[k]?).getD (.Pass default)
theorem l2a {h₀ h : Heap} {L : Addr} {e : Addr × Obj} {r : List (Addr × Obj)} (N : News h₀ L h (e :: r)) : News h₀ L h [e] := nc N (.head _) fun q hq => (List.not_mem_nil hq).elim
theorem l2b {h₀ h : Heap} {L : Addr} {e : Addr × Obj} {r : List (Addr × Obj)} (N : News h₀ L h (e :: r)) : News h₀ L h r := nw1 N
set_option maxHeartbeats 1000000 in
theorem op_packet {w : World} {p : Program} {loose : List Str} {mean : ExcName → Option Value} {mg mb : Str → Option Value} {dp un : Nat} {gd : Option (List Code)} {cn : Str} {cs : Scope} {a : Addr} {ccd : Value} {cl : List (Str × Addr)} {outer : List Env} {A₀ : Around} {base h₀ : Heap} {L : Addr} {m : Str → Option Value} {s : Shared} {Q E : Value → Shared → Prop} {rest : List (Addr × Obj)} {x : Fx} {c : Ch} {n : Nat} {wait : Int} {ta ti : Tok}
    (B : Below A₀ base outer h₀) (F : Fr h₀ L s.heap m) (X : (hd.heap_1 w.params).In h₀) (T : Top p loose mean mg mb h₀) (hk : cs.kind = .function)
    (N₁ : News h₀ L s.heap (CL x c)) (N₂ : News h₀ L s.heap rest) (apart : ∀ q ∈ rest, q.1 ∉ (CL x c).map (·.1))
    (cf : CF w wait x c n) (p0 : P0 x c) (hn0 : n = 0) (hdp : dp + 10 < recursionLimit) (hun : un + 300 < cLine)
    (ret : ∀ (c1 : Ch) (h1 : Heap) (tk1 : Nat), OffAll (CL x c1) rest → CF w wait x c1 (n) → PhF wait x c1 (n) (.fresh) → Fr h₀ L h1 m → News h₀ L h1 (CL x c1) → News h₀ L h1 rest → Q (.bool true) { s with heap := h1, toks := tk1 }) :
    wpAny (model PySem.Challenge.rw_pf0276_01.row.toRowW.prog w) (ktrTop dp un gd cn cs L a ccd cl outer) (call (.ref 213) [.ref x.ap, .str (Str.ofString "away") ta, .int 1 ti, .bool false]) Q E s := by
  have nd : ((CL x c).map (·.1)).Nodup := cl_nd cf
  have cfn := cf.hn
  obtain ⟨tch, hchg⟩ := cf.challenged
  obtain ⟨th, hadr⟩ := cf.haddress
  obtain ⟨thS, hst⟩ := cf.hstate
  obtain ⟨tw, wadr⟩ := cf.waddress
  obtain ⟨tr, hrole⟩ := p0.role
  obtain ⟨tq, hhi⟩ := p0.highest
  obtain ⟨tu, hws⟩ := p0.wstate
  have S1 : SubL ([(x.ap, instObj 282 x.dP), (x.dP, dictOf c.eP c.nP), (x.ak, listOf #[.ref x.ah, .ref x.aw] x.nk), (x.ah, instObj 167 x.dh), (x.dh, dictOf x.eh x.nh), (x.ahc, listOf #[] x.nhc), (x.aw, instObj 167 x.dw), (x.dw, dictOf c.ew c.nw), (c.awc, listOf c.vs.toArray c.nwc)] : List (Addr × Obj)) (CL x c) := ⟨.tail _ (.tail _ (.tail _ (.tail _ (.tail _ (.tail _ (.tail _ (.tail _ (.tail _ (.head _))))))))), .tail _ (.tail _ (.tail _ (.tail _ (.tail _ (.tail _ (.tail _ (.tail _ (.tail _ (.tail _ (.head _)))))))))), .tail _ (.tail _ (.tail _ (.tail _ (.tail _ (.tail _ (.tail _ (.tail _ (.tail _ (.tail _ (.tail _ (.head _))))))))))), .tail _ (.tail _ (.tail _ (.tail _ (.tail _ (.tail _ (.tail _ (.tail _ (.tail _ (.tail _ (.tail _ (.tail _ (.head _)))))))))))), .tail _ (.tail _ (.tail _ (.tail _ (.tail _ (.tail _ (.tail _ (.tail _ (.tail _ (.tail _ (.tail _ (.tail _ (.tail _ (.head _))))))))))))), .tail _ (.tail _ (.tail _ (.tail _ (.tail _ (.tail _ (.tail _ (.tail _ (.tail _ (.tail _ (.tail _ (.tail _ (.tail _ (.tail _ (.head _)))))))))))))), .tail _ (.tail _ (.tail _ (.tail _ (.tail _ (.tail _ (.tail _ (.tail _ (.tail _ (.tail _ (.tail _ (.tail _ (.tail _ (.tail _ (.tail _ (.head _))))))))))))))), .tail _ (.tail _ (.tail _ (.tail _ (.tail _ (.tail _ (.tail _ (.tail _ (.tail _ (.tail _ (.tail _ (.tail _ (.tail _ (.tail _ (.tail _ (.tail _ (.head _)))))))))))))))), .tail _ (.tail _ (.tail _ (.tail _ (.tail _ (.tail _ (.tail _ (.tail _ (.tail _ (.tail _ (.tail _ (.tail _ (.tail _ (.tail _ (.tail _ (.tail _ (.tail _ (.head _))))))))))))))))), trivial⟩
  have P : Part ((CL x c) ++ rest) ([(x.ap, instObj 282 x.dP), (x.dP, dictOf c.eP c.nP), (x.ak, listOf #[.ref x.ah, .ref x.aw] x.nk), (x.ah, instObj 167 x.dh), (x.dh, dictOf x.eh x.nh), (x.ahc, listOf #[] x.nhc), (x.aw, instObj 167 x.dw), (x.dw, dictOf c.ew c.nw), (c.awc, listOf c.vs.toArray c.nwc)] : List (Addr × Obj)) (([(x.ac, instObj 449 x.dc), (x.dc, dictOf c.ec c.nc), (x.fpw, kla_obj x.ln1 x.qn1 x.pa1 x.b1 x.sc1 x.cl1 x.pm1 x.c1 x.ct1), (x.c1, x.oc1), (x.acw, x.ocw), (x.fch, kla_obj x.ln2 x.qn2 x.pa2 x.b2 x.sc2 x.cl2 x.pm2 x.c2 x.ct2), (x.c2, x.oc2), (x.as_, instObj 449 x.ds), (x.ds, dictOf x.es x.ns), (c.aa, listOf #[] c.na), (x.ao, listOf #[] x.no), (x.pt, tabObj x.ps)] : List (Addr × Obj)) ++ rest) := Part.mask [false, false, false, false, false, false, false, false, false, true, true, true, true, true, true, true, true, true, false, false, false] nd apart (SubL.mem (l := [(x.ap, instObj 282 x.dP), (x.dP, dictOf c.eP c.nP), (x.ak, listOf #[.ref x.ah, .ref x.aw] x.nk), (x.ah, instObj 167 x.dh), (x.dh, dictOf x.eh x.nh), (x.ahc, listOf #[] x.nhc), (x.aw, instObj 167 x.dw), (x.dw, dictOf c.ew c.nw), (c.awc, listOf c.vs.toArray c.nwc)]) ⟨.head _, .tail _ (.head _), .tail _ (.tail _ (.head _)), .tail _ (.tail _ (.tail _ (.head _))), .tail _ (.tail _ (.tail _ (.tail _ (.head _)))), .tail _ (.tail _ (.tail _ (.tail _ (.tail _ (.head _))))), .tail _ (.tail _ (.tail _ (.tail _ (.tail _ (.tail _ (.head _)))))), .tail _ (.tail _ (.tail _ (.tail _ (.tail _ (.tail _ (.tail _ (.head _))))))), .tail _ (.tail _ (.tail _ (.tail _ (.tail _ (.tail _ (.tail _ (.tail _ (.head _)))))))), trivial⟩) (SubL.mem (l := [(x.ac, instObj 449 x.dc), (x.dc, dictOf c.ec c.nc), (x.fpw, kla_obj x.ln1 x.qn1 x.pa1 x.b1 x.sc1 x.cl1 x.pm1 x.c1 x.ct1), (x.c1, x.oc1), (x.acw, x.ocw), (x.fch, kla_obj x.ln2 x.qn2 x.pa2 x.b2 x.sc2 x.cl2 x.pm2 x.c2 x.ct2), (x.c2, x.oc2), (x.as_, instObj 449 x.ds), (x.ds, dictOf x.es x.ns), (c.aa, listOf #[] c.na), (x.ao, listOf #[] x.no), (x.pt, tabObj x.ps)]) ⟨.head _, .tail _ (.head _), .tail _ (.tail _ (.head _)), .tail _ (.tail _ (.tail _ (.head _))), .tail _ (.tail _ (.tail _ (.tail _ (.head _)))), .tail _ (.tail _ (.tail _ (.tail _ (.tail _ (.head _))))), .tail _ (.tail _ (.tail _ (.tail _ (.tail _ (.tail _ (.head _)))))), .tail _ (.tail _ (.tail _ (.tail _ (.tail _ (.tail _ (.tail _ (.head _))))))), .tail _ (.tail _ (.tail _ (.tail _ (.tail _ (.tail _ (.tail _ (.tail _ (.head _)))))))), .tail _ (.tail _ (.tail _ (.tail _ (.tail _ (.tail _ (.tail _ (.tail _ (.tail _ (.head _))))))))), .tail _ (.tail _ (.tail _ (.tail _ (.tail _ (.tail _ (.tail _ (.tail _ (.tail _ (.tail _ (.head _)))))))))), .tail _ (.tail _ (.tail _ (.tail _ (.tail _ (.tail _ (.tail _ (.tail _ (.tail _ (.tail _ (.tail _ (.head _))))))))))), trivial⟩)
  refine' packet (ap := x.ap) (dP := x.dP) (ak := x.ak) (ah := x.ah) (dh := x.dh) (ahc := x.ahc) (aw := x.aw) (dw := x.dw) (awc := c.awc) (eP := c.eP) (eh := x.eh) (ew := c.ew) (nP := c.nP) (nk := x.nk) (nh := x.nh) (nhc := x.nhc) (nw := c.nw) (nwc := c.nwc) (vs := c.vs) (bs := c.bs) B F X T hk (newsSub N₁ S1) (P.news (newsApp N₁ N₂)) P.apart (cf.aP) (cf.aH) (cf.aW) (cf.hv) (cf.known) (cf.hchal) (cf.wchal) (hadr) (wadr) (hrole) (p0.active) (p0.last) (hhi) (p0.mpo) (cf.his) (p0.wrenew) (hst) (hws) (po_ord cf) (by omega) (by omega) ?rt
  all_goals (try first | exact Value.none | exact (0 : Nat) | exact (0 : Int) | exact (#[] : Array UInt8))
  rintro q1 q2 q3 u1 vh nP2 h1 tk1 hl2 F1 N1 R1
  have AeP1 : AbsD (putL "highest" (PyData.keyHash w.params "highest") (.str "highest" q1) (.int vh u1) c.eP) (20) := AbsD.put_old cf.aP (hhi) _ _ _
  have AeP2 : AbsD (putL "last_proven" (PyData.keyHash w.params "last_proven") (.str "last_proven" q2) (.ref x.ah) (putL "highest" (PyData.keyHash w.params "highest") (.str "highest" q1) (.int vh u1) c.eP)) (20) := AbsD.put_old AeP1 (gOther cf.aP (by decide) (p0.last)) _ _ _
  have AeP3 : AbsD (putL "active" (PyData.keyHash w.params "active") (.str "active" q3) (.ref x.aw) (putL "last_proven" (PyData.keyHash w.params "last_proven") (.str "last_proven" q2) (.ref x.ah) (putL "highest" (PyData.keyHash w.params "highest") (.str "highest" q1) (.int vh u1) c.eP))) (20) := AbsD.put_old AeP2 (gOther AeP1 (by decide) (gOther cf.aP (by decide) (p0.active))) _ _ _
  have cf1 : CF w wait x { c with nP := nP2, eP := (putL "active" (PyData.keyHash w.params "active") (.str "active" q3) (.ref x.aw) (putL "last_proven" (PyData.keyHash w.params "last_proven") (.str "last_proven" q2) (.ref x.ah) (putL "highest" (PyData.keyHash w.params "highest") (.str "highest" q1) (.int vh u1) c.eP))) } (n) := { aC := cf.aC, aS := cf.aS, aP := AeP3, aH := cf.aH, aW := cf.aW, hv := cf.hv, hn := cf.hn, hvl := cf.hvl, paths := cf.paths, shake := cf.shake, challenged := cf.challenged, probe := cf.probe, choose := cf.choose, owed := cf.owed, complete := cf.complete, known := gOther AeP2 (by decide) (gOther AeP1 (by decide) (gOther cf.aP (by decide) (cf.known))), answers := gOther AeP2 (by decide) (gOther AeP1 (by decide) (gOther cf.aP (by decide) (cf.answers))), mwc := gOther AeP2 (by decide) (gOther AeP1 (by decide) (gOther cf.aP (by decide) (cf.mwc))), mol := gOther AeP2 (by decide) (gOther AeP1 (by decide) (gOther cf.aP (by decide) (cf.mol))), mtr := gOther AeP2 (by decide) (gOther AeP1 (by decide) (gOther cf.aP (by decide) (cf.mtr))), mnt := gOther AeP2 (by decide) (gOther AeP1 (by decide) (gOther cf.aP (by decide) (cf.mnt))), mot := gOther AeP2 (by decide) (gOther AeP1 (by decide) (gOther cf.aP (by decide) (cf.mot))), haddress := cf.haddress, hstate := cf.hstate, hfree := cf.hfree, hchal := cf.hchal, hdead := cf.hdead, his := cf.his, waddress := cf.waddress, wchal := cf.wchal, wprove := cf.wprove, wfail := cf.wfail, wchallenge := cf.wchallenge, wis := cf.wis, hPr := cf.hPr, hCh := cf.hCh, ho := cf.ho, haa := cf.haa }
  have ph1 : PhF wait x { c with nP := nP2, eP := (putL "active" (PyData.keyHash w.params "active") (.str "active" q3) (.ref x.aw) (putL "last_proven" (PyData.keyHash w.params "last_proven") (.str "last_proven" q2) (.ref x.ah) (putL "highest" (PyData.keyHash w.params "highest") (.str "highest" q1) (.int vh u1) c.eP))) } (n) (.fresh) := ⟨⟨_, hws⟩, p0.wmore, p0.wdead, p0.wfree, getL_same' _ AeP2 _ _ _, gOther AeP2 (by decide) (getL_same' _ AeP1 _ _ _), hn0⟩
  have apartC : ∀ q ∈ rest, q.1 ∉ (CL x c).map (·.1) := apart
  exact ret  { c with nP := nP2, eP := (putL "active" (PyData.keyHash w.params "active") (.str "active" q3) (.ref x.aw) (putL "last_proven" (PyData.keyHash w.params "last_proven") (.str "last_proven" q2) (.ref x.ah) (putL "highest" (PyData.keyHash w.params "highest") (.str "highest" q1) (.int vh u1) c.eP))) } h1 tk1 (cl_off apartC (fun q hq => apart_ne apartC (y := (c.awc, listOf c.vs.toArray c.nwc)) (.tail _ (.tail _ (.tail _ (.tail _ (.tail _ (.tail _ (.tail _ (.tail _ (.tail _ (.tail _ (.tail _ (.tail _ (.tail _ (.tail _ (.tail _ (.tail _ (.tail _ (.head _)))))))))))))))))) q hq) (fun q hq => apart_ne apartC (y := (c.aa, listOf #[] c.na)) (.tail _ (.tail _ (.tail _ (.tail _ (.tail _ (.tail _ (.tail _ (.tail _ (.tail _ (.tail _ (.tail _ (.tail _ (.tail _ (.tail _ (.tail _ (.tail _ (.tail _ (.tail _ (.head _))))))))))))))))))) q hq)) cf1 ph1  F1 (newsSub (newsApp N1 R1) ⟨.tail _ (.tail _ (.tail _ (.tail _ (.tail _ (.tail _ (.tail _ (.tail _ (.tail _ (.head _))))))))), .tail _ (.tail _ (.tail _ (.tail _ (.tail _ (.tail _ (.tail _ (.tail _ (.tail _ (.tail _ (.head _)))))))))), .tail _ (.tail _ (.tail _ (.tail _ (.tail _ (.tail _ (.tail _ (.tail _ (.tail _ (.tail _ (.tail _ (.head _))))))))))), .tail _ (.tail _ (.tail _ (.tail _ (.tail _ (.tail _ (.tail _ (.tail _ (.tail _ (.tail _ (.tail _ (.tail _ (.head _)))))))))))), .tail _ (.tail _ (.tail _ (.tail _ (.tail _ (.tail _ (.tail _ (.tail _ (.tail _ (.tail _ (.tail _ (.tail _ (.tail _ (.head _))))))))))))), .tail _ (.tail _ (.tail _ (.tail _ (.tail _ (.tail _ (.tail _ (.tail _ (.tail _ (.tail _ (.tail _ (.tail _ (.tail _ (.tail _ (.head _)))))))))))))), .tail _ (.tail _ (.tail _ (.tail _ (.tail _ (.tail _ (.tail _ (.tail _ (.tail _ (.tail _ (.tail _ (.tail _ (.tail _ (.tail _ (.tail _ (.head _))))))))))))))), .tail _ (.tail _ (.tail _ (.tail _ (.tail _ (.tail _ (.tail _ (.tail _ (.tail _ (.tail _ (.tail _ (.tail _ (.tail _ (.tail _ (.tail _ (.tail _ (.head _)))))))))))))))), .tail _ (.tail _ (.tail _ (.tail _ (.tail _ (.tail _ (.tail _ (.tail _ (.tail _ (.tail _ (.tail _ (.tail _ (.tail _ (.tail _ (.tail _ (.tail _ (.tail _ (.head _))))))))))))))))), .head _, .tail _ (.head _), .tail _ (.tail _ (.head _)), .tail _ (.tail _ (.tail _ (.head _))), .tail _ (.tail _ (.tail _ (.tail _ (.head _)))), .tail _ (.tail _ (.tail _ (.tail _ (.tail _ (.head _))))), .tail _ (.tail _ (.tail _ (.tail _ (.tail _ (.tail _ (.head _)))))), .tail _ (.tail _ (.tail _ (.tail _ (.tail _ (.tail _ (.tail _ (.head _))))))), .tail _ (.tail _ (.tail _ (.tail _ (.tail _ (.tail _ (.tail _ (.tail _ (.head _)))))))), .tail _ (.tail _ (.tail _ (.tail _ (.tail _ (.tail _ (.tail _ (.tail _ (.tail _ (.tail _ (.tail _ (.tail _ (.tail _ (.tail _ (.tail _ (.tail _ (.tail _ (.tail _ (.head _)))))))))))))))))), .tail _ (.tail _ (.tail _ (.tail _ (.tail _ (.tail _ (.tail _ (.tail _ (.tail _ (.tail _ (.tail _ (.tail _ (.tail _ (.tail _ (.tail _ (.tail _ (.tail _ (.tail _ (.tail _ (.head _))))))))))))))))))), .tail _ (.tail _ (.tail _ (.tail _ (.tail _ (.tail _ (.tail _ (.tail _ (.tail _ (.tail _ (.tail _ (.tail _ (.tail _ (.tail _ (.tail _ (.tail _ (.tail _ (.tail _ (.tail _ (.tail _ (.head _)))))))))))))))))))), trivial⟩) (fun q hq => R1 q (List.mem_append_right _ hq))
section
local macro_rules | `(tactic| ktr_rel) => `(tactic| first | assumption | (refine' AbsD.put_old ?abA ?abG _ _ _; (case abA => ktr_rel); (case abG => k_get)) | (refine' AbsD.put ?abA _ _ _ _; (case abA => ktr_rel)))
local macro_rules | `(tactic| k_get) => `(tactic| first | assumption | exact PutAs.same (by assumption) | (refine (PutAs.other (by assumption) (by decide)).trans ?_; k_get))
set_option maxRecDepth 100000 in
set_option maxHeartbeats 8000000 in
theorem state_call {w : World} {p : Program} {loose : List Str} {mean : ExcName → Option Value} {mg mb : Str → Option Value} {dp un : Nat} {gd : Option (List Code)} {cn : Str} {cs : Scope} {a : Addr} {ccd : Value} {cl : List (Str × Addr)} {outer : List Env} {A₀ : Around} {base h₀ : Heap} {L : Addr} {m : Str → Option Value} {s : Shared} {Q E : Value → Shared → Prop} {rest : List (Addr × Obj)} {wait : Int} {tw : Tok}
    (B : Below A₀ base outer h₀) (F : Fr h₀ L s.heap m) (X : (hd.heap_1 w.params).In h₀) (T : Top p loose mean mg mb h₀) (hk : cs.kind = .function)
    (N₁ : News h₀ L s.heap [(469, tabObj #[])]) (N₂ : News h₀ L s.heap rest) (apart : ∀ q ∈ rest, q.1 ∉ ([(469, tabObj #[])] : List (Addr × Obj)).map (·.1))
    (CH : CodeHd base 473 469) (hdp : dp + 20 < recursionLimit) (hun : un + 400 < cLine)
    (ret : ∀ (x : Fx) (c : Ch) (h' : Heap) (tk' : Nat), OffAll (CL x c) rest → (∀ q ∈ rest, @LT.lt Nat _ q.1 x.acw) → CF w wait x c 0 → P0 x c → Fr h₀ L h' m → News h₀ L h' (CL x c) → News h₀ L h' rest → Q (.ref x.ac) { s with heap := h', toks := tk' }) :
    wpAny (model PySem.Challenge.rw_pf0276_01.row.toRowW.prog w) (ktrTop dp un gd cn cs L a ccd cl outer) (call (.ref 474) [.int wait tw]) Q E s := by
  revert X; k_fill; intro X
  obtain ⟨Pq, hPq⟩ : ∃ Pq : Addr → Value → List (Addr × Obj) → Prop, ∀ L' v news, Pq L' v news ↔ (∃ x : Fx, ∃ c : Ch, v = .ref x.ac ∧ news = CL x c ∧ @LT.lt Nat _ L' x.acw ∧ CF w wait x c 0 ∧ P0 x c) := ⟨fun L' v news => ∃ x : Fx, ∃ c : Ch, v = .ref x.ac ∧ news = CL x c ∧ @LT.lt Nat _ L' x.acw ∧ CF w wait x c 0 ∧ P0 x c, fun _ _ _ => Iff.rfl⟩
  k_dflt (refine' enter_frameC (K := hd.heap_1 w.params) [("wait", .int wait tw)] (Pq) B F X T N₁ N₂ apart rfl rfl hk ?k6 ?k7 ?k8 ?k9 ?kB ?kD ?h ?c2 ?c3 ?c4 ?ret; (case k6 => k_is); (case k7 => k_is); (case k8 => ktr_room); (case k9 => exact BindsTo.of_eq rfl); (case kD => decide); (case kB => exact rfl); (case c2 => exact rfl); (case c3 => exact rfl); (case c4 => exact rfl))
  case ret =>
    rintro L' v news' h' tk' - hr hl2 hpq F' N' R'
    obtain ⟨x, c, rfl, rfl, hlt, hcf, hp0⟩ := (hPq _ _ _).mp hpq
    exact ret x c h' tk' hl2 (fun q hq => Nat.lt_trans (hr q hq) hlt) hcf hp0 F' N' R'
  intro g L' h₁ tk cells F N Y B X T l1; dsimp only [cellsFrom, bindL, bindC] at F Y; k_cells Y; (try simp only [List.cons_append, List.nil_append] at N)
  clear ret N₁ N₂ apart
  k_lt l1
  w_top off
  k_with_none
  (k_with "compareOp In" => (k_here; (with_reducible show wpAny _ _ (compareOp CmpOp.In (Value.bytes _ _) (Value.ref _)) _ _ _); k_dflt (first
      | (refine' in_miss ?N ?m ?v ?b ?_; (case N => k_asm); (case m => k_mem); (case v => first | assumption | exact BAre.nil); (case b => first | assumption | exact List.not_mem_nil); k_whole)
      | (refine' in_hit ?N ?m ?v ?b ?_; (case N => k_asm); (case m => k_mem); (case v | b => assumption); k_whole))))
  (k_with "compareOp In str ref" => (k_here; (with_reducible show wpAny _ _ (compareOp CmpOp.In (Value.str _ _) (Value.ref _)) _ _ _); k_dflt (refine' in_K_strs ?F ?X ?l ?i ?b ?_; (case F | X => k_asm); (case l => k_is); (case i => kde_strs); (case b => exact rfl); k_whole)))
  (k_with "setAttr ref" => (k_here; k_dflt (refine' set_abs ?k1 ?k2 ?k3 ?k4 ?k5 ?k6 ?k7 ?k8 ?k9 ?k10 ?k11 ?k12 ?_; (case k1 | k2 | k3 => k_asm); (case k4 => k_inst); (case k5 => exact rfl); (case k6 | k7 | k8 | k9 => k_is); (case k10 => assumption); (case k11 => omega); (case k12 => (intro es'_w n'_w; k_upd)); k_whole; intro es'_w n'_w h'_w aE_w pE_w F'_w N'_w; (try dsimp only at N'_w); (try k_sweep))))
  (k_with "call ref" => (k_here; k_dflt (refine' space_call ?B ?F ?X ?T ?k ?N ?d ?u ?_; (case B | F | X | T => k_asm); (case k => exact rfl); (case N => k_asm); (case d => ktr_room); (case u => ktr_units); k_whole; intro x'_w d'_w ec'_w nc'_w h'_w tk'_w aC'_w l1_w l2_w F'_w N'_w; (try k_lt l1_w); (try k_lt2 l2_w); (try k_sweep))))
  (k_with "call ref" => (k_here; k_dflt (refine' paths_call ?B ?F ?X ?T ?k ?N ?d ?u ?_; (case B | F | X | T => k_asm); (case k => exact rfl); (case N => k_asm); (case d => ktr_room); (case u => ktr_units); k_whole; intro xx_w dx_w eP_w eh_w ak_w ah_w dh_w ahc_w aa_w nP_w nk_w nh_w nhc_w na_w qh_w qs_w h'_w tk'_w l1_w hfx_w F'_w N'_w; (try k_lt l1_w); (obtain ⟨_, _, _, _, _, _, _, _, _, _, _, _, _, _, _, _, _, _, _, _, _, _, _, _, _, _, _, _, _⟩ := hfx_w); (try k_sweep))))
  (k_with "call ref" => (k_here; k_dflt (refine' datagram (oz := kla_obj _ _ _ _ _ _ _ _ _) (aa := (0 : Nat)) (nhc := 0) ?B ?F ?X ?T ?k (newsSub ?N ?S) (Part.news ?P ?N) (Part.apart ?P) ?h0 ?h1 ?h2 ?h3 ?h4 ?h5 ?h6 ?h7 ?h8 ?h9 ?d ?u ?_; (case B | F | X | T => k_asm); (case k => exact rfl); (case N => k_asm); (case S => k_subL); (case P => (repeat' (first | exact Part.nil | (apply Part.drop; · k_mem) | (apply Part.keep; · k_all)))); (case h0 | h1 | h2 | h3 | h4 | h5 | h6 | h7 | h8 | h9 => (first | assumption | k_get | omega | ktr_rel | (repeat' (first | refine And.intro ?_ ?_ | omega)))); (case d => ktr_room); (case u => ktr_units); k_whole; intro ew_w aw_w dw_w awc_w nk2_w nw_w nwc_w qu_w h'_w tk'_w hl2_w hfx_w F'_w N'_w R'_w; (have NN_w := newsApp N'_w R'_w; clear N'_w R'_w; (try simp only [List.cons_append, List.nil_append] at NN_w)); (obtain ⟨_, _, _, _, _, _, _, _, _, _, _, _, _, _, _, _⟩ := hfx_w); (clear hl2_w); (try k_sweep))))
  k_steps
  all_goals ((have es'_w := True.intro); (have N'_w := True.intro); (have pE_w := True.intro); (have aE_w := True.intro); (have F'_w := True.intro); (have n'_w := True.intro); (have h'_w := True.intro); (have tk'_w := True.intro); (have nc'_w := True.intro); (have aC'_w := True.intro); (have ec'_w := True.intro); (have x'_w := True.intro); (have l2_w := True.intro); (have l1_w := True.intro); (have d'_w := True.intro); (have hfx_w := True.intro); (have ahc_w := True.intro); (have nhc_w := True.intro); (have ah_w := True.intro); (have qh_w := True.intro); (have eP_w := True.intro); (have dh_w := True.intro); (have xx_w := True.intro); (have na_w := True.intro); (have qs_w := True.intro); (have eh_w := True.intro); (have nh_w := True.intro); (have nk_w := True.intro); (have aa_w := True.intro); (have ak_w := True.intro); (have nP_w := True.intro); (have dx_w := True.intro); (have nwc_w := True.intro); (have nk2_w := True.intro); (have hl2_w := True.intro); (have awc_w := True.intro); (have aw_w := True.intro); (have dw_w := True.intro); (have nw_w := True.intro); (have ew_w := True.intro); (have NN_w := True.intro); (have qu_w := True.intro); (have R'_w := True.intro); rename_i ocw dcw x1 d1 ec1 nc1 hA tkA aC1 lA lA2 x2 d2 ec2 nc2 hB tkB aC2 lB lB2 D2 hC lC hC1 hC2 hC3 tkC xx dx eP eh ak ah dh ahc aa nP nk0 nh nhc na qh qs hD tkD lD p0 p1 p2 p3 p4 p5 p6 p7 p8 p9 p10 p11 p12 p13 p14 p15 p16 p17 p18 p19 p20 p21 p22 p23 p24 p25 p26 p27 p28 D1 hE lE hE1 es6 n6 hF6 aE6 pE6 es5 n5 hF5 aE5 pE5 es4 n4 hF4 aE4 pE4 es3 n3 hF3 aE3 pE3 tkE f1 c1 oc1 vs1 tv1 ct1 hG tkG d1a d2a lG lG2 ll hH lH DD hI lI hI1 es2 n2 hJ2 aE2 pE2 es1 n1 hJ1 aE1 pE1 f2 c2 oc2 vs2 tv2 ct2 hK tkK d1b d2b lK lK2 es0 n0 hL aE0 pE0 ew aw dw awc nk2 nw nwc qu hM tkM Fz NN w0 w1 w2 w3 w4 w5 w6 w7 w8 w9 w10 w11 w12 w13 w14 w15)
  all_goals (refine End1.intro (CL { ac := x1, dc := d1, fpw := f1, c1 := c1, acw := L' + 1, fch := f2, c2 := c2, as_ := x2, ds := d2, ap := xx, dP := dx, ak := ak, ah := ah, dh := dh, ahc := ahc, aw := aw, dw := dw, ao := ll, pt := 469, ps := _, es := es3, eh := eh, ns := n3, nk := nk2, nh := nh, nhc := nhc, no := 0, ln1 := "<lambda>", ln2 := "<lambda>", qn1 := _, qn2 := _, pa1 := lamA lam1, pa2 := lamA lam2, b1 := lamB lam1, b2 := lamB lam2, sc1 := lamS lam1, sc2 := lamS lam2, cl1 := [("wait", L' + 1)], cl2 := [], pm1 := _, pm2 := _, ct1 := ct1, ct2 := ct2, oc1 := oc1, oc2 := oc2, ocw := ocw } { ec := es0, eP := eP, ew := ew, nc := n0, nP := nP, nw := nw, nwc := nwc, na := na, awc := awc, aa := aa, vs := [], bs := [] }) Fz NN ⟨.tail _ (.tail _ (.tail _ (.tail _ (.tail _ (.tail _ (.tail _ (.tail _ (.tail _ (.tail _ (.tail _ (.tail _ (.tail _ (.tail _ (.tail _ (.tail _ (.tail _ (.tail _ (.tail _ (.tail _ (.head _)))))))))))))))))))), .tail _ (.tail _ (.tail _ (.tail _ (.tail _ (.tail _ (.tail _ (.tail _ (.tail _ (.tail _ (.tail _ (.tail _ (.tail _ (.tail _ (.tail _ (.tail _ (.tail _ (.tail _ (.tail _ (.tail _ (.tail _ (.head _))))))))))))))))))))), .tail _ (.tail _ (.tail _ (.tail _ (.tail _ (.tail _ (.tail _ (.tail _ (.tail _ (.tail _ (.tail _ (.tail _ (.head _)))))))))))), .tail _ (.tail _ (.tail _ (.tail _ (.tail _ (.tail _ (.tail _ (.tail _ (.tail _ (.tail _ (.tail _ (.tail _ (.tail _ (.head _))))))))))))), .tail _ (.tail _ (.tail _ (.tail _ (.tail _ (.tail _ (.tail _ (.tail _ (.tail _ (.tail _ (.tail _ (.tail _ (.tail _ (.tail _ (.tail _ (.tail _ (.tail _ (.tail _ (.tail _ (.tail _ (.tail _ (.tail _ (.head _)))))))))))))))))))))), .tail _ (.tail _ (.tail _ (.tail _ (.tail _ (.tail _ (.tail _ (.tail _ (.head _)))))))), .tail _ (.tail _ (.tail _ (.tail _ (.tail _ (.tail _ (.tail _ (.tail _ (.tail _ (.head _))))))))), .tail _ (.tail _ (.tail _ (.tail _ (.tail _ (.tail _ (.tail _ (.tail _ (.tail _ (.tail _ (.tail _ (.tail _ (.tail _ (.tail _ (.tail _ (.tail _ (.tail _ (.tail _ (.head _)))))))))))))))))), .tail _ (.tail _ (.tail _ (.tail _ (.tail _ (.tail _ (.tail _ (.tail _ (.tail _ (.tail _ (.tail _ (.tail _ (.tail _ (.tail _ (.tail _ (.tail _ (.tail _ (.tail _ (.tail _ (.head _))))))))))))))))))), .head _, .tail _ (.head _), .tail _ (.tail _ (.head _)), .tail _ (.tail _ (.tail _ (.head _))), .tail _ (.tail _ (.tail _ (.tail _ (.head _)))), .tail _ (.tail _ (.tail _ (.tail _ (.tail _ (.tail _ (.tail _ (.tail _ (.tail _ (.tail _ (.tail _ (.tail _ (.tail _ (.tail _ (.tail _ (.head _))))))))))))))), .tail _ (.tail _ (.tail _ (.tail _ (.tail _ (.head _))))), .tail _ (.tail _ (.tail _ (.tail _ (.tail _ (.tail _ (.head _)))))), .tail _ (.tail _ (.tail _ (.tail _ (.tail _ (.tail _ (.tail _ (.head _))))))), .tail _ (.tail _ (.tail _ (.tail _ (.tail _ (.tail _ (.tail _ (.tail _ (.tail _ (.tail _ (.tail _ (.tail _ (.tail _ (.tail _ (.tail _ (.tail _ (.head _)))))))))))))))), .tail _ (.tail _ (.tail _ (.tail _ (.tail _ (.tail _ (.tail _ (.tail _ (.tail _ (.tail _ (.tail _ (.head _))))))))))), .tail _ (.tail _ (.tail _ (.tail _ (.tail _ (.tail _ (.tail _ (.tail _ (.tail _ (.tail _ (.tail _ (.tail _ (.tail _ (.tail _ (.tail _ (.tail _ (.tail _ (.tail _ (.tail _ (.tail _ (.tail _ (.tail _ (.tail _ (.head _))))))))))))))))))))))), trivial⟩ ((hPq _ _ _).mpr ⟨_, _, rfl, rfl, Nat.lt_succ_self _, ?cf, ?p0⟩))
  case cf => exact { aC := aE0.mono (by omega), aS := aE3.mono (by omega), aP := p0, aH := p1, aW := w0, hv := BAre.nil, hn := Nat.zero_le _, hvl := Nat.zero_le _, paths := (pE0.other (by decide)).trans ((pE1.other (by decide)).trans ((pE2.other (by decide)).trans ((pE4.other (by decide)).trans ((pE5.other (by decide)).trans (pE6.same))))), shake := (pE0.other (by decide)).trans ((pE1.other (by decide)).trans ((pE2.other (by decide)).trans ((pE4.other (by decide)).trans (pE5.same)))), challenged := ⟨_, (pE0.other (by decide)).trans ((pE1.other (by decide)).trans ((pE2.other (by decide)).trans (pE4.same)))⟩, probe := (pE0.other (by decide)).trans ((pE1.other (by decide)).trans (pE2.same)), choose := pE0.same, owed := (pE0.other (by decide)).trans (pE1.same), complete := pE3.same, known := p4, answers := p8, mwc := p13, mol := p14, mtr := p15, mnt := p16, mot := p17, haddress := ⟨_, p18⟩, hstate := ⟨_, p19⟩, hfree := p20, hchal := p21, hdead := p22, his := p23, waddress := ⟨_, w1⟩, wchal := w4, wprove := w7, wfail := w8, wchallenge := w9, wis := w11, hPr := lam_probe d1a d2a (dcw.trans rfl), hCh := fun k t1 t2 t3 hk => lam_chal d1b d2b k t1 t2 t3 hk, ho := ⟨Nat.lt_succ_of_lt l1, lA.1, lA2, lB.1, lB2, lD.2.1, p24, p25, p26, p27, p28.1, lG.2.2.2.1, lG2, lH.1, lK.2.1, lK2, w15, w13, w14⟩, haa := haa_init ⟨Nat.lt_succ_of_lt l1, lA.1, lA2, lB.1, lB2, lD.2.1, p24, p25, p26, p27, p28.1, lG.2.2.2.1, lG2, lH.1, lK.2.1, lK2, w15, w13, w14⟩ p28.2 lG.2.2.2.2.2.2.2.1 }
  case p0 => exact { role := ⟨_, p2⟩, active := p5, last := p6, highest := ⟨_, p7⟩, mpo := p9, monp := p12, wrenew := w10, wstate := ⟨_, w2⟩, wmore := w6, wdead := w5, wfree := w3, nobs := rfl, tab := rfl }
end
set_option maxRecDepth 100000 in
set_option maxHeartbeats 1500000 in
theorem s0_no {w : World} {p : Program} {loose : List Str} {mean : ExcName → Option Value} {mg mb : Str → Option Value} {dp un : Nat} {gd : Option (List Code)} {a : Addr} {ccd : Value} {outer : List Env} {A₀ : Around} {base h₀ : Heap} {L : Addr} {m : Str → Option Value} {s : Shared} {Q : Flow → Shared → Prop} {E : Value → Shared → Prop} {rest : List (Addr × Obj)} 
    (B : Below A₀ base outer h₀) (F : Fr h₀ L s.heap (kstB m [("is_wanted", .bool false)])) (X : (hd.heap_1 w.params).In h₀) (T : Top p loose mean mg mb h₀)
    (N : News h₀ L s.heap (rest)) 
    (hdp : dp + 14 < recursionLimit) (hun : un + 400 < cLine)
    (ret : ∀ (ad : Addr) (nd : Nat) (h1 : Heap) (tk1 : Nat), (∀ q ∈ rest, @LT.lt Nat _ q.1 ad) → Fr h₀ L h1 (fun y => if y = "due" then some (.ref ad) else kstB m [("is_wanted", .bool false)] y) → News h₀ L h1 ((ad, listOf #[] nd) :: rest) → Q .next { s with heap := h1, toks := tk1 }) :
    wpAny (model PySem.Challenge.rw_pf0276_01.row.toRowW.prog w) (ktrTop dp un gd "law" lawScope L a ccd [] outer) (exec (turnSt 0) (envX "law" lawScope L a ccd [])) Q E s := by
  generalize hS : lawScope = S
  conv at hS => lhs; whnf
  subst hS
  generalize hS : turnSt 0 = S
  conv at hS => lhs; whnf
  subst hS
  revert X; k_fill; intro X
  w_top off
  k_with_none
  k_steps
  all_goals exact ret _ _ _ _ (by assumption) (by assumption) (by assumption)
set_option maxRecDepth 100000 in
set_option maxHeartbeats 1500000 in
theorem l0 {w : World} {p : Program} {loose : List Str} {mean : ExcName → Option Value} {mg mb : Str → Option Value} {dp un : Nat} {gd : Option (List Code)} {a : Addr} {ccd : Value} {outer : List Env} {A₀ : Around} {base h₀ : Heap} {L : Addr} {m : Str → Option Value} {s : Shared} {Q : Flow → Shared → Prop} {E : Value → Shared → Prop} {rest : List (Addr × Obj)} {sa : Addr} {vs : List Value} {zs0 : List Int}
    (B : Below A₀ base outer h₀) (F : Fr h₀ L s.heap (kstB m [("script", .ref sa)])) (X : (hd.heap_1 w.params).In h₀) (T : Top p loose mean mg mb h₀)
    (N : News h₀ L s.heap (rest)) (hl : h₀.IsList sa vs.toArray) (hI : IntsAre vs zs0) (hlen : zs0.length ≤ 63)
    (hdp : dp + 14 < recursionLimit) (hun : un + 400 < cLine)
    (ret : ∀ (ab al : Addr) (nb na : Nat) (xs : List Value) (zs : List Int) (q : Tok) (h1 : Heap) (tk1 : Nat), (IntsAre xs zs) → (xs.length ≤ 30) → (@LT.lt Nat _ al ab) → (AllLt al rest) → Fr h₀ L h1 (fun y => if y = "box" then some (.ref ab) else kstB m [("script", .ref sa)] y) → News h₀ L h1 ((ab, listOf #[.ref al, .int 0 q] nb) :: (al, listOf xs.toArray na) :: rest) → Q .next { s with heap := h1, toks := tk1 }) :
    wpAny (model PySem.Challenge.rw_pf0276_01.row.toRowW.prog w) (ktrTop dp un gd "law" lawScope L a ccd [] outer) (exec (lawSt 0) (envX "law" lawScope L a ccd [])) Q E s := by
  generalize hS : lawScope = S
  conv at hS => lhs; whnf
  subst hS
  generalize hS : lawSt 0 = S
  conv at hS => lhs; whnf
  subst hS
  revert X; k_fill; intro X
  w_top off
  k_with_none
  k_steps
  all_goals (rename_i D1 ws h3 lA hJ hC hL D c h2 lB l h1x lC h0 Fz Nz; exact ret _ _ _ _ _ (List.take 24 zs0) _ _ _ hJ (by rw [hJ.length, hC]; exact Nat.le_trans (Nat.min_le_left _ _) (by decide)) lC.1 lB.2 Fz (nc Nz (.head _) (nc Nz (.tail _ (.head _)) fun q hq => Nz q (.tail _ (.tail _ (.tail _ hq))))))
set_option maxRecDepth 100000 in
set_option maxHeartbeats 1500000 in
theorem l1 {w : World} {p : Program} {loose : List Str} {mean : ExcName → Option Value} {mg mb : Str → Option Value} {dp un : Nat} {gd : Option (List Code)} {a : Addr} {ccd : Value} {outer : List Env} {A₀ : Around} {base h₀ : Heap} {L : Addr} {m : Str → Option Value} {s : Shared} {Q : Flow → Shared → Prop} {E : Value → Shared → Prop} {rest : List (Addr × Obj)} {ab al : Addr} {nb na : Nat} {xs : List Value} {zs : List Int} {c : Int} {tc : Tok}
    (B : Below A₀ base outer h₀) (F : Fr h₀ L s.heap (kstB m [("box", .ref ab)])) (X : (hd.heap_1 w.params).In h₀) (T : Top p loose mean mg mb h₀)
    (N : News h₀ L s.heap ((ab, listOf #[.ref al, .int c tc] nb) :: (al, listOf xs.toArray na) :: rest)) (hx : IntsAre xs zs) (hxl : xs.length ≤ 30) (hc : 0 ≤ c) (hc2 : c ≤ 900) (ho : @LT.lt Nat _ al ab) (off : OffAll [(ab, listOf #[.ref al, .int c tc] nb), (al, listOf xs.toArray na)] rest)
    (hdp : dp + 14 < recursionLimit) (hun : un + 400 < cLine)
    (ret : ∀ (r : Int) (awl : Addr) (nb2 nl : Nat) (q2 t1 t2 t3 : Tok) (h1 : Heap) (tk1 : Nat), (0 ≤ r) → (r < 5) → (@LT.lt Nat _ ab awl ∧ @LT.lt Nat _ al awl ∧ AllLt awl rest) → Fr h₀ L h1 (fun y => if y = "state" then some (.str (Str.ofString "tried") t3) else if y = "is_wanted" then some (.bool true) else if y = "now" then some (.int 0 t2) else if y = "went" then some (.ref awl) else if y = "wait" then some (.int (10 + 10 * r) t1) else kstB m [("box", .ref ab)] y) → News h₀ L h1 ((awl, listOf #[] nl) :: (ab, listOf #[.ref al, .int (c + 1) q2] nb2) :: (al, listOf xs.toArray na) :: rest) → Q .next { s with heap := h1, toks := tk1 }) :
    wpAny (model PySem.Challenge.rw_pf0276_01.row.toRowW.prog w) (ktrTop dp un gd "law" lawScope L a ccd [] outer) (exec (lawSt 1) (envX "law" lawScope L a ccd [])) Q E s := by
  generalize hS : lawScope = S
  conv at hS => lhs; whnf
  subst hS
  generalize hS : lawSt 1 = S
  conv at hS => lhs; whnf
  subst hS
  revert X; k_fill; intro X
  w_top off
  k_with_none
  (k_with "call ref" => (k_here; k_dflt (refine stopAt ?a ?_; (case a => exact rfl))))
  repeat' (first | (refine Stop.mk ?_; (with_reducible (first
    | (k_here; k_dflt (refine' take ?B ?F ?X ?T ?k (newsSub ?N ?S) (Part.news ?P ?N) (Part.apart ?P) ?h0 ?h1 ?h2 ?h3 ?h4 ?h5 ?h6 ?d ?u ?_; (case B => k_asm); (case F => k_asm); (case X => k_asm); (case T => k_asm); (case k => exact rfl); (case N => k_asm); (case S => k_subL); (case P => (repeat' (first | exact Part.nil | exact Part.rest (by assumption) | (apply Part.drop; · k_mem) | (apply Part.keep; · k_all)))); (case h0 => assumption); (case h1 => (first | assumption | omega)); (case h2 => (first | assumption | omega)); (case h3 => (first | assumption | omega)); (case h4 => (first | assumption | omega)); (case h5 => (first | assumption | omega)); (case h6 => (first | assumption | omega)); (case d => ktr_room); (case u => ktr_units)); intro r' q1' q2' nb' h' tk' hl2 hfx' F' N' R'; ((have NN := newsApp N' R'); clear N' R'; (obtain ⟨hr0, hr1⟩ := hfx'); (simp only [List.cons_append, List.nil_append] at NN)))))) | (k_unfold; (try dsimp only)) | (k_end; wrow_close) | walk1 | (dsimp only; walk1) | (leave1; walk_say "STEP leave1"; try dsimp only) | fail "no step")
  all_goals (refine' ret _ _ _ _ _ _ _ _ _ _ ?q0 ?q1 ?q2 ?q3 ?q4; (case q4 => exact nw1 (by assumption)); (case q3 => assumption); (case q2 => assumption); (case q1 => assumption); (case q0 => assumption))
set_option maxRecDepth 100000 in
set_option maxHeartbeats 1500000 in
theorem s2_yes {w : World} {p : Program} {loose : List Str} {mean : ExcName → Option Value} {mg mb : Str → Option Value} {dp un : Nat} {gd : Option (List Code)} {a : Addr} {ccd : Value} {outer : List Env} {A₀ : Around} {base h₀ : Heap} {L : Addr} {m : Str → Option Value} {s : Shared} {Q : Flow → Shared → Prop} {E : Value → Shared → Prop} {rest : List (Addr × Obj)} {awl ad at0 : Addr} {nl nd n : Nat} {t1 t2 : Tok} {ws : List Value}
    (B : Below A₀ base outer h₀) (F : Fr h₀ L s.heap (kstB m [("went", .ref awl), ("due", .ref ad)])) (X : (hd.heap_1 w.params).In h₀) (T : Top p loose mean mg mb h₀)
    (N : News h₀ L s.heap ((ad, listOf #[.ref at0] nd) :: (at0, { cls := .type "tuple", data := .seq #[.str (Str.ofString "path_challenge") t1, .bytes (chal n) t2] }) :: (awl, listOf ws.toArray nl) :: rest)) (hl : ws.length ≤ 20)
    (hdp : dp + 14 < recursionLimit) (hun : un + 400 < cLine)
    (ret : ∀ (awl2 : Addr) (nl2 : Nat) (t3 : Tok) (h1 : Heap) (tk1 : Nat), (∀ q ∈ rest, @LT.lt Nat _ q.1 awl2) → Fr h₀ L h1 (fun y => if y = "went" then some (.ref awl2) else if y = "is_wanted" then some (.bool false) else kstB m [("went", .ref awl), ("due", .ref ad)] y) → News h₀ L h1 ((awl2, listOf (ws ++ [Value.bytes (chal n) t3]).toArray nl2) :: rest) → Q .next { s with heap := h1, toks := tk1 }) :
    wpAny (model PySem.Challenge.rw_pf0276_01.row.toRowW.prog w) (ktrTop dp un gd "law" lawScope L a ccd [] outer) (exec (turnSt 2) (envX "law" lawScope L a ccd [])) Q E s := by
  generalize hS : lawScope = S
  conv at hS => lhs; whnf
  subst hS
  generalize hS : turnSt 2 = S
  conv at hS => lhs; whnf
  subst hS
  revert X; k_fill; intro X
  w_top off
  k_with_none
  (k_with "binaryOp Add ref ref" => (k_here; (with_reducible show wpAny _ _ (binaryOp _ (Value.ref _) (Value.ref _)) _ _ _); k_dflt (refine' add_led ?F ?N ?a ?b ?z ?_; (case F | N => k_asm); (case a | b => k_mem); (case z => (simp only [sizeLine_eq, List.length_cons, List.length_nil, List.length_append]; omega))); intro D'_w h'_w l1_w F'_w N'_w; (try k_lt l1_w); (try k_sweep)))
  (k_with "CompEnd" => (refine' cend ?a ?N ?o ?r ?_; (case a => assumption); (case N => k_asm); (case o => lcg_off); (case r => lcg_src)))
  k_steps
  all_goals ((have N'_w := True.intro); (have l1_w := True.intro); (have F'_w := True.intro); (have D'_w := True.intro); (have h'_w := True.intro); rename_i D1 h4 lB D0 h3 lC h2 h1x h0 Fz Nz; exact ret _ _ _ _ _ (kst_ltOf lB.2.2.2.2) Fz (fun q hq => Nz q (nw_b6 hq)))
set_option maxRecDepth 100000 in
set_option maxHeartbeats 1500000 in
theorem l2 {w : World} {p : Program} {loose : List Str} {mean : ExcName → Option Value} {mg mb : Str → Option Value} {dp un : Nat} {gd : Option (List Code)} {a : Addr} {ccd : Value} {outer : List Env} {A₀ : Around} {base h₀ : Heap} {L : Addr} {m : Str → Option Value} {s : Shared} {Q : Flow → Shared → Prop} {E : Value → Shared → Prop} {rest : List (Addr × Obj)} {wait : Int} {tw : Tok}
    (B : Below A₀ base outer h₀) (F : Fr h₀ L s.heap (kstB m [("wait", .int wait tw)])) (X : (hd.heap_1 w.params).In h₀) (T : Top p loose mean mg mb h₀)
    (N : News h₀ L s.heap ((469, tabObj #[]) :: rest)) (CH : CodeHd base 473 469) (off : OffAll [(469, tabObj #[])] rest)
    (hdp : dp + 30 < recursionLimit) (hun : un + 600 < cLine)
    (ret : ∀ (x : Fx) (c : Ch) (h1 : Heap) (tk1 : Nat), (OffAll (CL x c) rest) → (∀ q ∈ rest, @LT.lt Nat _ q.1 x.acw) → (CF w wait x c 0) → (P0 x c) → Fr h₀ L h1 (fun y => if y = "conn" then some (.ref x.ac) else kstB m [("wait", .int wait tw)] y) → News h₀ L h1 (CL x c ++ rest) → Q .next { s with heap := h1, toks := tk1 }) :
    wpAny (model PySem.Challenge.rw_pf0276_01.row.toRowW.prog w) (ktrTop dp un gd "law" lawScope L a ccd [] outer) (exec (lawSt 2) (envX "law" lawScope L a ccd [])) Q E s := by
  generalize hS : lawScope = S
  conv at hS => lhs; whnf
  subst hS
  generalize hS : lawSt 2 = S
  conv at hS => lhs; whnf
  subst hS
  revert X; k_fill; intro X
  w_top off
  k_with_none
  (k_with "call ref" => (k_here; k_dflt (refine stopAt ?a ?_; (case a => exact rfl))))
  repeat' (first | (refine Stop.mk ?_; (with_reducible (first
    | (k_here; k_dflt (refine' state_call ?B ?F ?X ?T ?k (l2a ?N) (l2b ?N) (off_apart ?O) ?c ?d ?u ?_; (case B => k_asm); (case F => k_asm); (case X => k_asm); (case T => k_asm); (case k => exact rfl); (case N => k_asm); (case O => assumption); (case c => assumption); (case d => ktr_room); (case u => ktr_units)); intro x' c' h' tk' off' lt' cf' p0' F' N' R'; ((have NN := newsApp N' R'); clear N' R'))))) | (k_unfold; (try dsimp only)) | (k_end; wrow_close) | walk1 | (dsimp only; walk1) | (leave1; walk_say "STEP leave1"; try dsimp only) | fail "no step")
  all_goals (refine' ret _ _ _ _ ?q0 ?q1 ?q2 ?q3 ?q4 ?q5; (case q5 => assumption); (case q4 => assumption); (case q3 => assumption); (case q2 => assumption); (case q1 => assumption); (case q0 => assumption))
set_option maxRecDepth 100000 in
set_option maxHeartbeats 1500000 in
theorem s0_yes {w : World} {p : Program} {loose : List Str} {mean : ExcName → Option Value} {mg mb : Str → Option Value} {dp un : Nat} {gd : Option (List Code)} {a : Addr} {ccd : Value} {outer : List Env} {A₀ : Around} {base h₀ : Heap} {L : Addr} {m : Str → Option Value} {s : Shared} {Q : Flow → Shared → Prop} {E : Value → Shared → Prop} {rest : List (Addr × Obj)} {awl : Addr} {nl n : Nat} {ws : List Value}
    (B : Below A₀ base outer h₀) (F : Fr h₀ L s.heap (kstB m [("is_wanted", .bool true), ("went", .ref awl)])) (X : (hd.heap_1 w.params).In h₀) (T : Top p loose mean mg mb h₀)
    (N : News h₀ L s.heap ((awl, listOf ws.toArray nl) :: rest)) (hl : ws.length = n) (hn : n ≤ 20)
    (hdp : dp + 14 < recursionLimit) (hun : un + 400 < cLine)
    (ret : ∀ (ad at0 : Addr) (nd : Nat) (t1 t2 : Tok) (h1 : Heap) (tk1 : Nat), (∀ q ∈ rest, @LT.lt Nat _ q.1 at0) → (@LT.lt Nat _ awl at0) → (@LT.lt Nat _ at0 ad) → Fr h₀ L h1 (fun y => if y = "due" then some (.ref ad) else kstB m [("is_wanted", .bool true), ("went", .ref awl)] y) → News h₀ L h1 ((ad, listOf #[.ref at0] nd) :: (at0, { cls := .type "tuple", data := .seq #[.str (Str.ofString "path_challenge") t1, .bytes (chal n) t2] }) :: (awl, listOf ws.toArray nl) :: rest) → Q .next { s with heap := h1, toks := tk1 }) :
    wpAny (model PySem.Challenge.rw_pf0276_01.row.toRowW.prog w) (ktrTop dp un gd "law" lawScope L a ccd [] outer) (exec (turnSt 0) (envX "law" lawScope L a ccd [])) Q E s := by
  generalize hS : lawScope = S
  conv at hS => lhs; whnf
  subst hS
  generalize hS : turnSt 0 = S
  conv at hS => lhs; whnf
  subst hS
  subst hl
  revert X; k_fill; intro X
  w_top off
  k_with_none
  (k_with "call builtin:len" => (k_here; (with_reducible show wpAny _ _ (call (Value.builtin "len") [Value.ref _]) _ _ _); k_dflt (refine' kst_len ?k1 ?k2 ?k3 ?k4 ?_; (case k1 => k_asm); (case k2 => k_mem); (case k3 => exact rfl); (case k4 => omega)); k_whole))
  (k_with "call type:bytes" => (k_here; (with_reducible show wpAny _ _ (call (Value.type _) [Value.ref _]) _ _ _); k_dflt (refine' bytes_rep ?F ?N ?m ?v ?k ?h ?_; (case F | N => k_asm); (case m => k_mem); (case v => exact rfl); (case k => omega); (case h => with_unfolding_all rfl); k_whole); intro h'_w t'_w k'_w F'_w N'_w; (try k_sweep)))
  k_steps
  all_goals ((have N'_w := True.intro); (have k'_w := True.intro); (have F'_w := True.intro); (have h'_w := True.intro); (have t'_w := True.intro); rename_i D1 h2 la l2 h3 lb h4 Fz Nz; exact ret _ _ _ _ _ _ _ (kst_ltOf la.2.2.2) la.2.2.1 lb.1 Fz (nw22 Nz))
set_option maxRecDepth 100000 in
set_option maxHeartbeats 1500000 in
theorem s4 {w : World} {p : Program} {loose : List Str} {mean : ExcName → Option Value} {mg mb : Str → Option Value} {dp un : Nat} {gd : Option (List Code)} {a : Addr} {ccd : Value} {outer : List Env} {A₀ : Around} {base h₀ : Heap} {L : Addr} {m : Str → Option Value} {s : Shared} {Q : Flow → Shared → Prop} {E : Value → Shared → Prop} {rest : List (Addr × Obj)} {ab al awl : Addr} {nb na nl n : Nat} {xs ws : List Value} {zs : List Int} {c : Int} {tc : Tok} {bs : List (Array UInt8)}
    (B : Below A₀ base outer h₀) (F : Fr h₀ L s.heap (kstB m [("box", .ref ab), ("went", .ref awl)])) (X : (hd.heap_1 w.params).In h₀) (T : Top p loose mean mg mb h₀)
    (N : News h₀ L s.heap ((ab, listOf #[.ref al, .int c tc] nb) :: (al, listOf xs.toArray na) :: (awl, listOf ws.toArray nl) :: rest)) (hx : IntsAre xs zs) (hxl : xs.length ≤ 30) (hc : 0 ≤ c) (hc2 : c ≤ 900) (ho : @LT.lt Nat _ al ab) (ow1 : @Ne Nat ab awl) (ow2 : @Ne Nat al awl) (off : OffAll [(ab, listOf #[.ref al, .int c tc] nb), (al, listOf xs.toArray na)] rest) (hv : BAre ws bs) (hl : ws.length ≤ 20)
    (hdp : dp + 14 < recursionLimit) (hun : un + 400 < cLine)
    (ret : ∀ (r : Int) (q1 q2 t1 : Tok) (nb2 : Nat) (b : Array UInt8) (h1 : Heap) (tk1 : Nat), (0 ≤ r) → (r < 4) → (b ∈ (Array.replicate 8 0 : Array UInt8) :: bs) → Fr h₀ L h1 (fun y => if y = "form" then some (.int r q1) else if y = "data" then some (.bytes b t1) else kstB m [("box", .ref ab), ("went", .ref awl)] y) → News h₀ L h1 ((ab, listOf #[.ref al, .int (c + 1 + 1) q2] nb2) :: (al, listOf xs.toArray na) :: (awl, listOf ws.toArray nl) :: rest) → Q .next { s with heap := h1, toks := tk1 }) :
    wpAny (model PySem.Challenge.rw_pf0276_01.row.toRowW.prog w) (ktrTop dp un gd "law" lawScope L a ccd [] outer) (exec (turnSt 4) (envX "law" lawScope L a ccd [])) Q E s := by
  generalize hS : lawScope = S
  conv at hS => lhs; whnf
  subst hS
  generalize hS : turnSt 4 = S
  conv at hS => lhs; whnf
  subst hS
  have hbl := hv.len
  revert X; k_fill; intro X
  w_top off
  k_with_none
  (k_with "call builtin:len" => (k_here; (with_reducible show wpAny _ _ (call (Value.builtin "len") [Value.ref _]) _ _ _); k_dflt (refine' kst_len ?k1 ?k2 ?k3 ?k4 ?_; (case k1 => k_asm); (case k2 => k_mem); (case k3 => exact rfl); (case k4 => omega)); k_whole))
  (k_with "binaryOp Add ref ref" => (k_here; (with_reducible show wpAny _ _ (binaryOp _ (Value.ref _) (Value.ref _)) _ _ _); k_dflt (refine' add_led ?F ?N ?a ?b ?z ?_; (case F | N => k_asm); (case a | b => k_mem); (case z => (simp only [sizeLine_eq, List.length_cons, List.length_nil, List.length_append]; omega))); intro D'_w h'_w l1_w F'_w N'_w; (try k_lt l1_w); (try k_sweep)))
  (k_with "subscriptTail" => (k_here; (with_reducible show wpAny _ _ (subscriptTail _ _ (Value.ref _) (Value.int _ _)) _ _ _); k_dflt (refine' bare_sub ?k1 ?k2 ?k3 ?k4 ?k5 ?k6 ?_ ?k7; (case k1 => k_asm); (case k2 => k_mem); (case k3 => first | assumption | exact BAre.cons _ _ (by assumption)); (case k4 => omega); (case k5 => (simp only [List.length_cons]; omega)); (case k6 => omega); (case k7 => with_unfolding_all rfl)); intro b'_w t'_w hb'_w))
  (k_with "call type:bytes" => (k_here; (with_reducible show wpAny _ _ (call (Value.type _) [Value.int 8 _]) _ _ _); k_dflt (refine' call_bytes8 ?_); intro u'_w k'_w))
  (k_with "call ref" => (k_here; k_dflt (refine stopAt ?a ?_; (case a => exact rfl))))
  repeat' (first | (refine Stop.mk ?_; (with_reducible (first
    | (k_here; k_dflt (refine' take ?B ?F ?X ?T ?k (newsSub ?N ?S) (Part.news ?P ?N) (Part.apart ?P) ?h0 ?h1 ?h2 ?h3 ?h4 ?h5 ?h6 ?d ?u ?_; (case B => k_asm); (case F => k_asm); (case X => k_asm); (case T => k_asm); (case k => exact rfl); (case N => k_asm); (case S => k_subL); (case P => (repeat' (first | exact Part.nil | exact Part.rest (by assumption) | (apply Part.drop; · k_mem) | (apply Part.keep; · k_all)))); (case h0 => assumption); (case h1 => (first | assumption | omega)); (case h2 => (first | assumption | omega)); (case h3 => (first | assumption | omega)); (case h4 => (first | assumption | omega)); (case h5 => (first | assumption | omega)); (case h6 => (first | assumption | omega)); (case d => ktr_room); (case u => ktr_units)); intro r' q1' q2' nb' h' tk' hl2 hfx' F' N' R'; ((have NN := newsApp N' R'); clear N' R'; (obtain ⟨hr0, hr1⟩ := hfx'); (simp only [List.cons_append, List.nil_append] at NN)))))) | (k_unfold; (try dsimp only)) | (k_end; wrow_close) | walk1 | (dsimp only; walk1) | (leave1; walk_say "STEP leave1"; try dsimp only) | fail "no step")
  all_goals (refine' ret _ _ _ _ _ _ _ _ ?q0 ?q1 ?q2 ?q3 ?q4; (case q4 => exact nw_s4 (by assumption)); (case q3 => assumption); (case q2 => assumption); (case q1 => assumption); (case q0 => assumption))
set_option maxRecDepth 100000 in
set_option maxHeartbeats 1500000 in
theorem s5l_hit {w : World} {p : Program} {loose : List Str} {mean : ExcName → Option Value} {mg mb : Str → Option Value} {dp un : Nat} {gd : Option (List Code)} {a : Addr} {ccd : Value} {outer : List Env} {A₀ : Around} {base h₀ : Heap} {L : Addr} {m : Str → Option Value} {s : Shared} {Q : Flow → Shared → Prop} {E : Value → Shared → Prop} {rest : List (Addr × Obj)} {x : Fx} {c : Ch} {n : Nat} {wait : Int} {ts td tr tn tw : Tok} {r now : Int} {awl : Addr} {nl : Nat} {ws : List Value} {b0 : Array UInt8} {b : Bool}
    (B : Below A₀ base outer h₀) (F : Fr h₀ L s.heap (kstB m [("state", .str (Str.ofString "tried") ts), ("conn", .ref x.ac), ("form", .int r tr), ("data", .bytes b0 td), ("went", .ref awl), ("now", .int now tn), ("wait", .int wait tw)])) (X : (hd.heap_1 w.params).In h₀) (T : Top p loose mean mg mb h₀)
    (N : News h₀ L s.heap ((awl, listOf ws.toArray nl) :: (CL x c ++ rest))) (cf : CF w wait x c n) (ph : PhF wait x c n (.tried b)) (hv : BAre ws (chals n)) (hb : b0 ∈ chals n) (off : OffAll (CL x c) ((awl, listOf ws.toArray nl) :: rest)) (hr : r < 2)
    (hdp : dp + 14 < recursionLimit) (hun : un + 400 < cLine)
    (ret : ∀ (c1 : Ch) (h1 : Heap) (tk1 : Nat), (CF w wait x c1 n) → (PhF wait x c1 n (.tried true)) → (OffAll (CL x c1) ((awl, listOf ws.toArray nl) :: rest)) → Fr h₀ L h1 (fun y => if y = "is_wanted" then some (.bool true) else kstB m [("state", .str (Str.ofString "tried") ts), ("conn", .ref x.ac), ("form", .int r tr), ("data", .bytes b0 td), ("went", .ref awl), ("now", .int now tn), ("wait", .int wait tw)] y) → News h₀ L h1 ((awl, listOf ws.toArray nl) :: (CL x c1 ++ rest)) → Q .next { s with heap := h1, toks := tk1 }) :
    wpAny (model PySem.Challenge.rw_pf0276_01.row.toRowW.prog w) (ktrTop dp un gd "law" lawScope L a ccd [] outer) (exec (turnSt 5) (envX "law" lawScope L a ccd [])) Q E s := by
  generalize hS : lawScope = S
  conv at hS => lhs; whnf
  subst hS
  generalize hS : turnSt 5 = S
  conv at hS => lhs; whnf
  subst hS
  have hb2 := hb
  rw [← ph.2.2.2.2.2.2] at hb2
  revert X; k_fill; intro X
  w_top off
  k_with_none
  (k_with "compareOp In" => (k_here; (with_reducible show wpAny _ _ (compareOp CmpOp.In (Value.bytes _ _) (Value.ref _)) _ _ _); k_dflt (first
      | (refine' in_miss ?N ?m ?v ?b ?_; (case N => k_asm); (case m => k_mem); (case v => first | assumption | exact BAre.nil); (case b => first | assumption | exact List.not_mem_nil); k_whole)
      | (refine' in_hit ?N ?m ?v ?b ?_; (case N => k_asm); (case m => k_mem); (case v | b => assumption); k_whole))))
  (k_with "call ref" => (k_here; k_dflt (refine stopAt ?a ?_; (case a => exact rfl))))
  repeat' (first | (refine Stop.mk ?_; (with_reducible (first
    | (k_here; k_dflt (refine' op_lost_hit ?B ?F ?X ?T ?k (na2 ?N) (nb2 ?N) (off_apart ?O) ?h0 ?h1 ?h2 ?h3 ?h4 ?d ?u ?_; (case B => k_asm); (case F => k_asm); (case X => k_asm); (case T => k_asm); (case k => exact rfl); (case N => k_asm); (case O => exact off_l (by assumption) (by assumption)); (case h0 => assumption); (case h1 => assumption); (case h2 => exact ne_l (by assumption)); (case h3 => exact awc_l (by assumption)); (case h4 => assumption); (case d => ktr_room); (case u => ktr_units)); intro c1' h' tk' off' cf' ph' F' N' R'; ((have NN := nj N' R'); clear N' R'))))) | (k_unfold; (try dsimp only)) | (k_end; wrow_close) | walk1 | (dsimp only; walk1) | (leave1; walk_say "STEP leave1"; try dsimp only) | fail "no step")
  all_goals (refine' ret _ _ _ ?q0 ?q1 ?q2 ?q3 ?q4; (case q4 => assumption); (case q3 => assumption); (case q2 => assumption); (case q1 => assumption); (case q0 => assumption))
set_option maxRecDepth 100000 in
set_option maxHeartbeats 1500000 in
theorem s5l_miss {w : World} {p : Program} {loose : List Str} {mean : ExcName → Option Value} {mg mb : Str → Option Value} {dp un : Nat} {gd : Option (List Code)} {a : Addr} {ccd : Value} {outer : List Env} {A₀ : Around} {base h₀ : Heap} {L : Addr} {m : Str → Option Value} {s : Shared} {Q : Flow → Shared → Prop} {E : Value → Shared → Prop} {rest : List (Addr × Obj)} {x : Fx} {c : Ch} {n : Nat} {wait : Int} {ts td tr tn tw : Tok} {r now : Int} {awl : Addr} {nl : Nat} {ws : List Value} {b0 : Array UInt8} {b : Bool}
    (B : Below A₀ base outer h₀) (F : Fr h₀ L s.heap (kstB m [("state", .str (Str.ofString "tried") ts), ("conn", .ref x.ac), ("form", .int r tr), ("data", .bytes b0 td), ("went", .ref awl), ("now", .int now tn), ("wait", .int wait tw)])) (X : (hd.heap_1 w.params).In h₀) (T : Top p loose mean mg mb h₀)
    (N : News h₀ L s.heap ((awl, listOf ws.toArray nl) :: (CL x c ++ rest))) (cf : CF w wait x c n) (ph : PhF wait x c n (.tried b)) (hv : BAre ws (chals n)) (hb : b0 ∉ chals n) (off : OffAll (CL x c) ((awl, listOf ws.toArray nl) :: rest)) (hr : r < 2)
    (hdp : dp + 14 < recursionLimit) (hun : un + 400 < cLine)
    (ret : ∀  (h1 : Heap) (tk1 : Nat), Fr h₀ L h1 (fun y => if y = "is_wanted" then some (.bool false) else kstB m [("state", .str (Str.ofString "tried") ts), ("conn", .ref x.ac), ("form", .int r tr), ("data", .bytes b0 td), ("went", .ref awl), ("now", .int now tn), ("wait", .int wait tw)] y) → News h₀ L h1 ((awl, listOf ws.toArray nl) :: (CL x c ++ rest)) → Q .next { s with heap := h1, toks := tk1 }) :
    wpAny (model PySem.Challenge.rw_pf0276_01.row.toRowW.prog w) (ktrTop dp un gd "law" lawScope L a ccd [] outer) (exec (turnSt 5) (envX "law" lawScope L a ccd [])) Q E s := by
  generalize hS : lawScope = S
  conv at hS => lhs; whnf
  subst hS
  generalize hS : turnSt 5 = S
  conv at hS => lhs; whnf
  subst hS
  have hb2 := hb
  rw [← ph.2.2.2.2.2.2] at hb2
  revert X; k_fill; intro X
  w_top off
  k_with_none
  (k_with "compareOp In" => (k_here; (with_reducible show wpAny _ _ (compareOp CmpOp.In (Value.bytes _ _) (Value.ref _)) _ _ _); k_dflt (first
      | (refine' in_miss ?N ?m ?v ?b ?_; (case N => k_asm); (case m => k_mem); (case v => first | assumption | exact BAre.nil); (case b => first | assumption | exact List.not_mem_nil); k_whole)
      | (refine' in_hit ?N ?m ?v ?b ?_; (case N => k_asm); (case m => k_mem); (case v | b => assumption); k_whole))))
  (k_with "call ref" => (k_here; k_dflt (refine stopAt ?a ?_; (case a => exact rfl))))
  repeat' (first | (refine Stop.mk ?_; (with_reducible (first
    | (k_here; k_dflt (refine' op_lost_miss ?B ?F ?X ?T ?k (na2 ?N) (nb2 ?N) (off_apart ?O) ?h0 ?h1 ?h2 ?h3 ?d ?u ?_; (case B => k_asm); (case F => k_asm); (case X => k_asm); (case T => k_asm); (case k => exact rfl); (case N => k_asm); (case O => exact off_l (by assumption) (by assumption)); (case h0 => assumption); (case h1 => exact ne_l (by assumption)); (case h2 => exact awc_l (by assumption)); (case h3 => assumption); (case d => ktr_room); (case u => ktr_units)); intro h' tk' F' N' R'; ((have NN := nj N' R'); clear N' R'))))) | (k_unfold; (try dsimp only)) | (k_end; wrow_close) | walk1 | (dsimp only; walk1) | (leave1; walk_say "STEP leave1"; try dsimp only) | fail "no step")
  all_goals (refine' ret _ _ ?q0 ?q1; (case q1 => assumption); (case q0 => assumption))
set_option maxRecDepth 100000 in
set_option maxHeartbeats 1500000 in
theorem s5l_proven {w : World} {p : Program} {loose : List Str} {mean : ExcName → Option Value} {mg mb : Str → Option Value} {dp un : Nat} {gd : Option (List Code)} {a : Addr} {ccd : Value} {outer : List Env} {A₀ : Around} {base h₀ : Heap} {L : Addr} {m : Str → Option Value} {s : Shared} {Q : Flow → Shared → Prop} {E : Value → Shared → Prop} {rest : List (Addr × Obj)} {x : Fx} {c : Ch} {n : Nat} {wait : Int} {ts td tr tn tw : Tok} {r now : Int} {awl : Addr} {nl : Nat} {ws : List Value} {b0 : Array UInt8} {b : Bool}
    (B : Below A₀ base outer h₀) (F : Fr h₀ L s.heap (kstB m [("state", .str (Str.ofString "proven") ts), ("conn", .ref x.ac), ("form", .int r tr), ("data", .bytes b0 td), ("went", .ref awl), ("now", .int now tn), ("wait", .int wait tw)])) (X : (hd.heap_1 w.params).In h₀) (T : Top p loose mean mg mb h₀)
    (N : News h₀ L s.heap ((awl, listOf ws.toArray nl) :: (CL x c ++ rest))) (cf : CF w wait x c n) (ph : PhF wait x c n (.proven)) (hv : BAre ws (chals n))  (off : OffAll (CL x c) ((awl, listOf ws.toArray nl) :: rest)) (hr : r < 2)
    (hdp : dp + 14 < recursionLimit) (hun : un + 400 < cLine)
    (ret : ∀  (h1 : Heap) (tk1 : Nat), Fr h₀ L h1 (fun y => if y = "is_wanted" then some (.bool false) else kstB m [("state", .str (Str.ofString "proven") ts), ("conn", .ref x.ac), ("form", .int r tr), ("data", .bytes b0 td), ("went", .ref awl), ("now", .int now tn), ("wait", .int wait tw)] y) → News h₀ L h1 ((awl, listOf ws.toArray nl) :: (CL x c ++ rest)) → Q .next { s with heap := h1, toks := tk1 }) :
    wpAny (model PySem.Challenge.rw_pf0276_01.row.toRowW.prog w) (ktrTop dp un gd "law" lawScope L a ccd [] outer) (exec (turnSt 5) (envX "law" lawScope L a ccd [])) Q E s := by
  generalize hS : lawScope = S
  conv at hS => lhs; whnf
  subst hS
  generalize hS : turnSt 5 = S
  conv at hS => lhs; whnf
  subst hS
  have hb2 : b0 ∉ c.bs := by rw [ph.2.2.2]; exact List.not_mem_nil
  revert X; k_fill; intro X
  w_top off
  k_with_none
  (k_with "compareOp In" => (k_here; (with_reducible show wpAny _ _ (compareOp CmpOp.In (Value.bytes _ _) (Value.ref _)) _ _ _); k_dflt (first
      | (refine' in_miss ?N ?m ?v ?b ?_; (case N => k_asm); (case m => k_mem); (case v => first | assumption | exact BAre.nil); (case b => first | assumption | exact List.not_mem_nil); k_whole)
      | (refine' in_hit ?N ?m ?v ?b ?_; (case N => k_asm); (case m => k_mem); (case v | b => assumption); k_whole))))
  (k_with "call ref" => (k_here; k_dflt (refine stopAt ?a ?_; (case a => exact rfl))))
  repeat' (first | (refine Stop.mk ?_; (with_reducible (first
    | (k_here; k_dflt (refine' op_lost_miss ?B ?F ?X ?T ?k (na2 ?N) (nb2 ?N) (off_apart ?O) ?h0 ?h1 ?h2 ?h3 ?d ?u ?_; (case B => k_asm); (case F => k_asm); (case X => k_asm); (case T => k_asm); (case k => exact rfl); (case N => k_asm); (case O => exact off_l (by assumption) (by assumption)); (case h0 => assumption); (case h1 => exact ne_l (by assumption)); (case h2 => exact awc_l (by assumption)); (case h3 => assumption); (case d => ktr_room); (case u => ktr_units)); intro h' tk' F' N' R'; ((have NN := nj N' R'); clear N' R'))))) | (k_unfold; (try dsimp only)) | (k_end; wrow_close) | walk1 | (dsimp only; walk1) | (leave1; walk_say "STEP leave1"; try dsimp only) | fail "no step")
  all_goals (refine' ret _ _ ?q0 ?q1; (case q1 => assumption); (case q0 => assumption))
set_option maxRecDepth 100000 in
set_option maxHeartbeats 1500000 in
theorem s5l_home {w : World} {p : Program} {loose : List Str} {mean : ExcName → Option Value} {mg mb : Str → Option Value} {dp un : Nat} {gd : Option (List Code)} {a : Addr} {ccd : Value} {outer : List Env} {A₀ : Around} {base h₀ : Heap} {L : Addr} {m : Str → Option Value} {s : Shared} {Q : Flow → Shared → Prop} {E : Value → Shared → Prop} {rest : List (Addr × Obj)} {x : Fx} {c : Ch} {n : Nat} {wait : Int} {ts td tr tn tw : Tok} {r now : Int} {awl : Addr} {nl : Nat} {ws : List Value} {b0 : Array UInt8} {b : Bool}
    (B : Below A₀ base outer h₀) (F : Fr h₀ L s.heap (kstB m [("state", .str (Str.ofString "home") ts), ("conn", .ref x.ac), ("form", .int r tr), ("data", .bytes b0 td), ("went", .ref awl), ("now", .int now tn), ("wait", .int wait tw)])) (X : (hd.heap_1 w.params).In h₀) (T : Top p loose mean mg mb h₀)
    (N : News h₀ L s.heap ((awl, listOf ws.toArray nl) :: (CL x c ++ rest))) (cf : CF w wait x c n) (ph : PhF wait x c n (.home)) (hv : BAre ws (chals n))  (off : OffAll (CL x c) ((awl, listOf ws.toArray nl) :: rest)) (hr : r < 2)
    (hdp : dp + 14 < recursionLimit) (hun : un + 400 < cLine)
    (ret : ∀  (h1 : Heap) (tk1 : Nat), Fr h₀ L h1 (fun y => if y = "is_wanted" then some (.bool false) else kstB m [("state", .str (Str.ofString "home") ts), ("conn", .ref x.ac), ("form", .int r tr), ("data", .bytes b0 td), ("went", .ref awl), ("now", .int now tn), ("wait", .int wait tw)] y) → News h₀ L h1 ((awl, listOf ws.toArray nl) :: (CL x c ++ rest)) → Q .next { s with heap := h1, toks := tk1 }) :
    wpAny (model PySem.Challenge.rw_pf0276_01.row.toRowW.prog w) (ktrTop dp un gd "law" lawScope L a ccd [] outer) (exec (turnSt 5) (envX "law" lawScope L a ccd [])) Q E s := by
  generalize hS : lawScope = S
  conv at hS => lhs; whnf
  subst hS
  generalize hS : turnSt 5 = S
  conv at hS => lhs; whnf
  subst hS
  have hb2 : b0 ∉ c.bs := by rw [ph.2.2.2]; exact List.not_mem_nil
  revert X; k_fill; intro X
  w_top off
  k_with_none
  (k_with "compareOp In" => (k_here; (with_reducible show wpAny _ _ (compareOp CmpOp.In (Value.bytes _ _) (Value.ref _)) _ _ _); k_dflt (first
      | (refine' in_miss ?N ?m ?v ?b ?_; (case N => k_asm); (case m => k_mem); (case v => first | assumption | exact BAre.nil); (case b => first | assumption | exact List.not_mem_nil); k_whole)
      | (refine' in_hit ?N ?m ?v ?b ?_; (case N => k_asm); (case m => k_mem); (case v | b => assumption); k_whole))))
  (k_with "call ref" => (k_here; k_dflt (refine stopAt ?a ?_; (case a => exact rfl))))
  repeat' (first | (refine Stop.mk ?_; (with_reducible (first
    | (k_here; k_dflt (refine' op_lost_miss ?B ?F ?X ?T ?k (na2 ?N) (nb2 ?N) (off_apart ?O) ?h0 ?h1 ?h2 ?h3 ?d ?u ?_; (case B => k_asm); (case F => k_asm); (case X => k_asm); (case T => k_asm); (case k => exact rfl); (case N => k_asm); (case O => exact off_l (by assumption) (by assumption)); (case h0 => assumption); (case h1 => exact ne_l (by assumption)); (case h2 => exact awc_l (by assumption)); (case h3 => assumption); (case d => ktr_room); (case u => ktr_units)); intro h' tk' F' N' R'; ((have NN := nj N' R'); clear N' R'))))) | (k_unfold; (try dsimp only)) | (k_end; wrow_close) | walk1 | (dsimp only; walk1) | (leave1; walk_say "STEP leave1"; try dsimp only) | fail "no step")
  all_goals (refine' ret _ _ ?q0 ?q1; (case q1 => assumption); (case q0 => assumption))
set_option maxRecDepth 100000 in
set_option maxHeartbeats 1500000 in
theorem s1_again {w : World} {p : Program} {loose : List Str} {mean : ExcName → Option Value} {mg mb : Str → Option Value} {dp un : Nat} {gd : Option (List Code)} {a : Addr} {ccd : Value} {outer : List Env} {A₀ : Around} {base h₀ : Heap} {L : Addr} {m : Str → Option Value} {s : Shared} {Q : Flow → Shared → Prop} {E : Value → Shared → Prop} {rest : List (Addr × Obj)} {x : Fx} {c : Ch} {n : Nat} {wait : Int} {ad at0 : Addr} {nd : Nat} {t1 t2 tn : Tok} {now : Int}
    (B : Below A₀ base outer h₀) (F : Fr h₀ L s.heap (kstB m [("conn", .ref x.ac), ("now", .int now tn), ("due", .ref ad)])) (X : (hd.heap_1 w.params).In h₀) (T : Top p loose mean mg mb h₀)
    (N : News h₀ L s.heap ((ad, listOf #[.ref at0] nd) :: (at0, { cls := .type "tuple", data := .seq #[.str (Str.ofString "path_challenge") t1, .bytes (chal n) t2] }) :: (CL x c ++ rest))) (cf : CF w wait x c n) (ph : PhF wait x c n (.tried true)) (off : OffAll ((ad, listOf #[.ref at0] nd) :: CL x c) ((at0, { cls := .type "tuple", data := .seq #[.str (Str.ofString "path_challenge") t1, .bytes (chal n) t2] }) :: rest)) (hz : ∀ y ∈ CL x c, y.1 ≠ ad) (hzz : @LT.lt Nat _ c.awc ad) (CH : CodeHd h₀ 473 469) (hn2 : n < 20)
    (hdp : dp + 14 < recursionLimit) (hun : un + 400 < cLine)
    (ret : ∀ (c1 : Ch) (h1 : Heap) (tk1 : Nat), (CF w wait x c1 (n + 1)) → (PhF wait x c1 (n + 1) (.tried false)) → (OffAll (CL x c1) rest) → Fr h₀ L h1 (kstB m [("conn", .ref x.ac), ("now", .int now tn), ("due", .ref ad)]) → News h₀ L h1 ((ad, listOf #[.ref at0] nd) :: (at0, { cls := .type "tuple", data := .seq #[.str (Str.ofString "path_challenge") t1, .bytes (chal n) t2] }) :: (CL x c1 ++ rest)) → Q .next { s with heap := h1, toks := tk1 }) :
    wpAny (model PySem.Challenge.rw_pf0276_01.row.toRowW.prog w) (ktrTop dp un gd "law" lawScope L a ccd [] outer) (exec (turnSt 1) (envX "law" lawScope L a ccd [])) Q E s := by
  generalize hS : lawScope = S
  conv at hS => lhs; whnf
  subst hS
  generalize hS : turnSt 1 = S
  conv at hS => lhs; whnf
  subst hS
  revert X; k_fill; intro X
  w_top off
  k_with_none
  (k_with "compareOp NotEq ref ref" => (k_here; (with_reducible show wpAny _ _ (compareOp CmpOp.NotEq (Value.ref _) (Value.ref _)) _ _ _); k_dflt (refine' ne_due ?N ?l ?k ?a ?b ?u ?_; (case N => k_asm); (case l | k | a | b => k_mem); (case u => ktr_units))))
  (k_with "call ref" => (k_here; k_dflt (refine stopAt ?a ?_; (case a => exact rfl))))
  repeat' (first | (refine Stop.mk ?_; (with_reducible (first
    | (k_here; k_dflt (refine' op_none_tried ?B ?F ?X ?T ?k (na_b ?N) (nb_b ?N) (off_apart ?O) ?h0 ?h1 ?h2 ?h3 ?h4 ?d ?u ?_; (case B => k_asm); (case F => k_asm); (case X => k_asm); (case T => k_asm); (case k => exact rfl); (case N => k_asm); (case O => assumption); (case h0 => assumption); (case h1 => assumption); (case h2 => assumption); (case h3 => assumption); (case h4 => assumption); (case d => ktr_room); (case u => ktr_units)); intro al' n3' c1' h' tk' off' cf' ph' f1' f2' f3' f4' F' N' R'; ((have NN := nj_b N' R'); (have O3 := offr3 off'); clear N' R'))
    | (k_here; k_dflt (refine' op_again ?B ?F ?X ?T ?k (na2 ?N) (nb2 ?N) (off_apart ?O) ?h0 ?h1 ?h2 ?h3 ?h4 ?h5 ?d ?u ?_; (case B => k_asm); (case F => k_asm); (case X => k_asm); (case T => k_asm); (case k => exact rfl); (case N => k_asm); (case O => assumption); (case h0 => assumption); (case h1 => assumption); (case h2 => assumption); (case h3 => assumption); (case h4 => assumption); (case h5 => assumption); (case d => ktr_room); (case u => ktr_units)); intro al' at' n3' u5' u6' c1' h' tk' off' cf' ph' f1' f2' f3' f4' f5' f6' F' N' R'; ((have NN := nj_a N' R'); (have O2 := off_b off' f1' f2' f4' f6'); clear N' R'))))) | (k_unfold; (try dsimp only)) | (k_end; wrow_close) | walk1 | (dsimp only; walk1) | (leave1; walk_say "STEP leave1"; try dsimp only) | fail "no step")
  all_goals (refine' ret _ _ _ ?q0 ?q1 ?q2 ?q3 ?q4; (case q4 => exact nw1 (nw1 (by assumption))); (case q3 => assumption); (case q2 => assumption); (case q1 => assumption); (case q0 => assumption))
set_option maxRecDepth 100000 in
set_option maxHeartbeats 1500000 in
theorem s1_first {w : World} {p : Program} {loose : List Str} {mean : ExcName → Option Value} {mg mb : Str → Option Value} {dp un : Nat} {gd : Option (List Code)} {a : Addr} {ccd : Value} {outer : List Env} {A₀ : Around} {base h₀ : Heap} {L : Addr} {m : Str → Option Value} {s : Shared} {Q : Flow → Shared → Prop} {E : Value → Shared → Prop} {rest : List (Addr × Obj)} {x : Fx} {c : Ch} {n : Nat} {wait : Int} {ad at0 : Addr} {nd : Nat} {t1 t2 tn : Tok} {now : Int}
    (B : Below A₀ base outer h₀) (F : Fr h₀ L s.heap (kstB m [("conn", .ref x.ac), ("now", .int now tn), ("due", .ref ad)])) (X : (hd.heap_1 w.params).In h₀) (T : Top p loose mean mg mb h₀)
    (N : News h₀ L s.heap ((ad, listOf #[.ref at0] nd) :: (at0, { cls := .type "tuple", data := .seq #[.str (Str.ofString "path_challenge") t1, .bytes (chal n) t2] }) :: (CL x c ++ rest))) (cf : CF w wait x c n) (ph : PhF wait x c n (.fresh)) (off : OffAll ((ad, listOf #[.ref at0] nd) :: CL x c) ((at0, { cls := .type "tuple", data := .seq #[.str (Str.ofString "path_challenge") t1, .bytes (chal n) t2] }) :: rest)) (hz : ∀ y ∈ CL x c, y.1 ≠ ad) (hzz : @LT.lt Nat _ c.awc ad) (CH : CodeHd h₀ 473 469) (hnow : now = 0)
    (hdp : dp + 14 < recursionLimit) (hun : un + 400 < cLine)
    (ret : ∀ (c1 : Ch) (h1 : Heap) (tk1 : Nat), (CF w wait x c1 (n + 1)) → (PhF wait x c1 (n + 1) (.tried false)) → (OffAll (CL x c1) rest) → Fr h₀ L h1 (kstB m [("conn", .ref x.ac), ("now", .int now tn), ("due", .ref ad)]) → News h₀ L h1 ((ad, listOf #[.ref at0] nd) :: (at0, { cls := .type "tuple", data := .seq #[.str (Str.ofString "path_challenge") t1, .bytes (chal n) t2] }) :: (CL x c1 ++ rest)) → Q .next { s with heap := h1, toks := tk1 }) :
    wpAny (model PySem.Challenge.rw_pf0276_01.row.toRowW.prog w) (ktrTop dp un gd "law" lawScope L a ccd [] outer) (exec (turnSt 1) (envX "law" lawScope L a ccd [])) Q E s := by
  generalize hS : lawScope = S
  conv at hS => lhs; whnf
  subst hS
  generalize hS : turnSt 1 = S
  conv at hS => lhs; whnf
  subst hS
  revert X; k_fill; intro X
  w_top off
  k_with_none
  (k_with "compareOp NotEq ref ref" => (k_here; (with_reducible show wpAny _ _ (compareOp CmpOp.NotEq (Value.ref _) (Value.ref _)) _ _ _); k_dflt (refine' ne_due ?N ?l ?k ?a ?b ?u ?_; (case N => k_asm); (case l | k | a | b => k_mem); (case u => ktr_units))))
  (k_with "call ref" => (k_here; k_dflt (refine stopAt ?a ?_; (case a => exact rfl))))
  repeat' (first | (refine Stop.mk ?_; (with_reducible (first
    | (k_here; k_dflt (refine' op_none_tried ?B ?F ?X ?T ?k (na_b ?N) (nb_b ?N) (off_apart ?O) ?h0 ?h1 ?h2 ?h3 ?h4 ?d ?u ?_; (case B => k_asm); (case F => k_asm); (case X => k_asm); (case T => k_asm); (case k => exact rfl); (case N => k_asm); (case O => assumption); (case h0 => assumption); (case h1 => assumption); (case h2 => assumption); (case h3 => assumption); (case h4 => assumption); (case d => ktr_room); (case u => ktr_units)); intro al' n3' c1' h' tk' off' cf' ph' f1' f2' f3' f4' F' N' R'; ((have NN := nj_b N' R'); (have O3 := offr3 off'); clear N' R'))
    | (k_here; k_dflt (refine' op_first ?B ?F ?X ?T ?k (na2 ?N) (nb2 ?N) (off_apart ?O) ?h0 ?h1 ?h2 ?h3 ?h4 ?h5 ?d ?u ?_; (case B => k_asm); (case F => k_asm); (case X => k_asm); (case T => k_asm); (case k => exact rfl); (case N => k_asm); (case O => assumption); (case h0 => assumption); (case h1 => assumption); (case h2 => assumption); (case h3 => assumption); (case h4 => assumption); (case h5 => assumption); (case d => ktr_room); (case u => ktr_units)); intro al' at' n3' u5' u6' c1' h' tk' off' cf' ph' f1' f2' f3' f4' f5' f6' F' N' R'; ((have NN := nj_a N' R'); (have O2 := off_b off' f1' f2' f4' f6'); clear N' R'))))) | (k_unfold; (try dsimp only)) | (k_end; wrow_close) | walk1 | (dsimp only; walk1) | (leave1; walk_say "STEP leave1"; try dsimp only) | fail "no step")
  all_goals (refine' ret _ _ _ ?q0 ?q1 ?q2 ?q3 ?q4; (case q4 => exact nw1 (nw1 (by assumption))); (case q3 => assumption); (case q2 => assumption); (case q1 => assumption); (case q0 => assumption))
set_option maxRecDepth 100000 in
set_option maxHeartbeats 1500000 in
theorem s1_home {w : World} {p : Program} {loose : List Str} {mean : ExcName → Option Value} {mg mb : Str → Option Value} {dp un : Nat} {gd : Option (List Code)} {a : Addr} {ccd : Value} {outer : List Env} {A₀ : Around} {base h₀ : Heap} {L : Addr} {m : Str → Option Value} {s : Shared} {Q : Flow → Shared → Prop} {E : Value → Shared → Prop} {rest : List (Addr × Obj)} {x : Fx} {c : Ch} {n : Nat} {wait : Int} {ad : Addr} {nd : Nat} {tn : Tok} {now : Int}
    (B : Below A₀ base outer h₀) (F : Fr h₀ L s.heap (kstB m [("conn", .ref x.ac), ("now", .int now tn), ("due", .ref ad)])) (X : (hd.heap_1 w.params).In h₀) (T : Top p loose mean mg mb h₀)
    (N : News h₀ L s.heap ((ad, listOf #[] nd) :: (CL x c ++ rest))) (cf : CF w wait x c n) (ph : PhF wait x c n (.home)) (off : OffAll ((ad, listOf #[] nd) :: CL x c) rest) (hz : ∀ y ∈ CL x c, y.1 ≠ ad) (hzz : @LT.lt Nat _ c.awc ad) (CH : CodeHd h₀ 473 469)
    (hdp : dp + 14 < recursionLimit) (hun : un + 400 < cLine)
    (ret : ∀ (c1 : Ch) (h1 : Heap) (tk1 : Nat), (CF w wait x c1 n) → (PhF wait x c1 n (.home)) → (OffAll (CL x c1) rest) → Fr h₀ L h1 (kstB m [("conn", .ref x.ac), ("now", .int now tn), ("due", .ref ad)]) → News h₀ L h1 ((ad, listOf #[] nd) :: (CL x c1 ++ rest)) → Q .next { s with heap := h1, toks := tk1 }) :
    wpAny (model PySem.Challenge.rw_pf0276_01.row.toRowW.prog w) (ktrTop dp un gd "law" lawScope L a ccd [] outer) (exec (turnSt 1) (envX "law" lawScope L a ccd [])) Q E s := by
  generalize hS : lawScope = S
  conv at hS => lhs; whnf
  subst hS
  generalize hS : turnSt 1 = S
  conv at hS => lhs; whnf
  subst hS
  revert X; k_fill; intro X
  w_top off
  k_with_none
  (k_with "call ref" => (k_here; k_dflt (refine stopAt ?a ?_; (case a => exact rfl))))
  repeat' (first | (refine Stop.mk ?_; (with_reducible (first
    | (k_here; k_dflt (refine' op_none_home ?B ?F ?X ?T ?k (na_d ?N) (nb_d ?N) (off_apart ?O) ?h0 ?h1 ?h2 ?h3 ?h4 ?d ?u ?_; (case B => k_asm); (case F => k_asm); (case X => k_asm); (case T => k_asm); (case k => exact rfl); (case N => k_asm); (case O => assumption); (case h0 => assumption); (case h1 => assumption); (case h2 => assumption); (case h3 => assumption); (case h4 => assumption); (case d => ktr_room); (case u => ktr_units)); intro al' n3' c1' h' tk' off' cf' ph' f1' f2' f3' f4' F' N' R'; ((have NN := nj_d N' R'); (have O3 := offr1 off'); clear N' R'))
    | (k_here; k_dflt (refine' op_none_home ?B ?F ?X ?T ?k (na_c ?N) (nb_c ?N) (off_apart ?O) ?h0 ?h1 ?h2 ?h3 ?h4 ?d ?u ?_; (case B => k_asm); (case F => k_asm); (case X => k_asm); (case T => k_asm); (case k => exact rfl); (case N => k_asm); (case O => assumption); (case h0 => assumption); (case h1 => assumption); (case h2 => assumption); (case h3 => assumption); (case h4 => assumption); (case d => ktr_room); (case u => ktr_units)); intro al' n3' c1' h' tk' off' cf' ph' f1' f2' f3' f4' F' N' R'; ((have NN := nj_c N' R'); (have O2 := off_d off' f1' f3'); (have hq := eqlt f2' (by assumption)); clear N' R'))))) | (k_unfold; (try dsimp only)) | (k_end; wrow_close) | walk1 | (dsimp only; walk1) | (leave1; walk_say "STEP leave1"; try dsimp only) | fail "no step")
  all_goals (refine' ret _ _ _ ?q0 ?q1 ?q2 ?q3 ?q4; (case q4 => exact nw1 (nw1 (by assumption))); (case q3 => assumption); (case q2 => assumption); (case q1 => assumption); (case q0 => assumption))
set_option maxRecDepth 100000 in
set_option maxHeartbeats 1500000 in
theorem s1_proven {w : World} {p : Program} {loose : List Str} {mean : ExcName → Option Value} {mg mb : Str → Option Value} {dp un : Nat} {gd : Option (List Code)} {a : Addr} {ccd : Value} {outer : List Env} {A₀ : Around} {base h₀ : Heap} {L : Addr} {m : Str → Option Value} {s : Shared} {Q : Flow → Shared → Prop} {E : Value → Shared → Prop} {rest : List (Addr × Obj)} {x : Fx} {c : Ch} {n : Nat} {wait : Int} {ad : Addr} {nd : Nat} {tn : Tok} {now : Int}
    (B : Below A₀ base outer h₀) (F : Fr h₀ L s.heap (kstB m [("conn", .ref x.ac), ("now", .int now tn), ("due", .ref ad)])) (X : (hd.heap_1 w.params).In h₀) (T : Top p loose mean mg mb h₀)
    (N : News h₀ L s.heap ((ad, listOf #[] nd) :: (CL x c ++ rest))) (cf : CF w wait x c n) (ph : PhF wait x c n (.proven)) (off : OffAll ((ad, listOf #[] nd) :: CL x c) rest) (hz : ∀ y ∈ CL x c, y.1 ≠ ad) (hzz : @LT.lt Nat _ c.awc ad) (CH : CodeHd h₀ 473 469)
    (hdp : dp + 14 < recursionLimit) (hun : un + 400 < cLine)
    (ret : ∀ (c1 : Ch) (h1 : Heap) (tk1 : Nat), (CF w wait x c1 n) → (PhF wait x c1 n (.proven)) → (OffAll (CL x c1) rest) → Fr h₀ L h1 (kstB m [("conn", .ref x.ac), ("now", .int now tn), ("due", .ref ad)]) → News h₀ L h1 ((ad, listOf #[] nd) :: (CL x c1 ++ rest)) → Q .next { s with heap := h1, toks := tk1 }) :
    wpAny (model PySem.Challenge.rw_pf0276_01.row.toRowW.prog w) (ktrTop dp un gd "law" lawScope L a ccd [] outer) (exec (turnSt 1) (envX "law" lawScope L a ccd [])) Q E s := by
  generalize hS : lawScope = S
  conv at hS => lhs; whnf
  subst hS
  generalize hS : turnSt 1 = S
  conv at hS => lhs; whnf
  subst hS
  revert X; k_fill; intro X
  w_top off
  k_with_none
  (k_with "call ref" => (k_here; k_dflt (refine stopAt ?a ?_; (case a => exact rfl))))
  repeat' (first | (refine Stop.mk ?_; (with_reducible (first
    | (k_here; k_dflt (refine' op_none_proven ?B ?F ?X ?T ?k (na_d ?N) (nb_d ?N) (off_apart ?O) ?h0 ?h1 ?h2 ?h3 ?h4 ?d ?u ?_; (case B => k_asm); (case F => k_asm); (case X => k_asm); (case T => k_asm); (case k => exact rfl); (case N => k_asm); (case O => assumption); (case h0 => assumption); (case h1 => assumption); (case h2 => assumption); (case h3 => assumption); (case h4 => assumption); (case d => ktr_room); (case u => ktr_units)); intro al' n3' c1' h' tk' off' cf' ph' f1' f2' f3' f4' F' N' R'; ((have NN := nj_d N' R'); (have O3 := offr1 off'); clear N' R'))
    | (k_here; k_dflt (refine' op_none_proven ?B ?F ?X ?T ?k (na_c ?N) (nb_c ?N) (off_apart ?O) ?h0 ?h1 ?h2 ?h3 ?h4 ?d ?u ?_; (case B => k_asm); (case F => k_asm); (case X => k_asm); (case T => k_asm); (case k => exact rfl); (case N => k_asm); (case O => assumption); (case h0 => assumption); (case h1 => assumption); (case h2 => assumption); (case h3 => assumption); (case h4 => assumption); (case d => ktr_room); (case u => ktr_units)); intro al' n3' c1' h' tk' off' cf' ph' f1' f2' f3' f4' F' N' R'; ((have NN := nj_c N' R'); (have O2 := off_d off' f1' f3'); (have hq := eqlt f2' (by assumption)); clear N' R'))))) | (k_unfold; (try dsimp only)) | (k_end; wrow_close) | walk1 | (dsimp only; walk1) | (leave1; walk_say "STEP leave1"; try dsimp only) | fail "no step")
  all_goals (refine' ret _ _ _ ?q0 ?q1 ?q2 ?q3 ?q4; (case q4 => exact nw1 (nw1 (by assumption))); (case q3 => assumption); (case q2 => assumption); (case q1 => assumption); (case q0 => assumption))
set_option maxRecDepth 100000 in
set_option maxHeartbeats 1500000 in
theorem s1_tried {w : World} {p : Program} {loose : List Str} {mean : ExcName → Option Value} {mg mb : Str → Option Value} {dp un : Nat} {gd : Option (List Code)} {a : Addr} {ccd : Value} {outer : List Env} {A₀ : Around} {base h₀ : Heap} {L : Addr} {m : Str → Option Value} {s : Shared} {Q : Flow → Shared → Prop} {E : Value → Shared → Prop} {rest : List (Addr × Obj)} {x : Fx} {c : Ch} {n : Nat} {wait : Int} {ad : Addr} {nd : Nat} {tn : Tok} {now : Int}
    (B : Below A₀ base outer h₀) (F : Fr h₀ L s.heap (kstB m [("conn", .ref x.ac), ("now", .int now tn), ("due", .ref ad)])) (X : (hd.heap_1 w.params).In h₀) (T : Top p loose mean mg mb h₀)
    (N : News h₀ L s.heap ((ad, listOf #[] nd) :: (CL x c ++ rest))) (cf : CF w wait x c n) (ph : PhF wait x c n (.tried false)) (off : OffAll ((ad, listOf #[] nd) :: CL x c) rest) (hz : ∀ y ∈ CL x c, y.1 ≠ ad) (hzz : @LT.lt Nat _ c.awc ad) (CH : CodeHd h₀ 473 469)
    (hdp : dp + 14 < recursionLimit) (hun : un + 400 < cLine)
    (ret : ∀ (c1 : Ch) (h1 : Heap) (tk1 : Nat), (CF w wait x c1 n) → (PhF wait x c1 n (.tried false)) → (OffAll (CL x c1) rest) → Fr h₀ L h1 (kstB m [("conn", .ref x.ac), ("now", .int now tn), ("due", .ref ad)]) → News h₀ L h1 ((ad, listOf #[] nd) :: (CL x c1 ++ rest)) → Q .next { s with heap := h1, toks := tk1 }) :
    wpAny (model PySem.Challenge.rw_pf0276_01.row.toRowW.prog w) (ktrTop dp un gd "law" lawScope L a ccd [] outer) (exec (turnSt 1) (envX "law" lawScope L a ccd [])) Q E s := by
  generalize hS : lawScope = S
  conv at hS => lhs; whnf
  subst hS
  generalize hS : turnSt 1 = S
  conv at hS => lhs; whnf
  subst hS
  revert X; k_fill; intro X
  w_top off
  k_with_none
  (k_with "call ref" => (k_here; k_dflt (refine stopAt ?a ?_; (case a => exact rfl))))
  repeat' (first | (refine Stop.mk ?_; (with_reducible (first
    | (k_here; k_dflt (refine' op_none_tried ?B ?F ?X ?T ?k (na_d ?N) (nb_d ?N) (off_apart ?O) ?h0 ?h1 ?h2 ?h3 ?h4 ?d ?u ?_; (case B => k_asm); (case F => k_asm); (case X => k_asm); (case T => k_asm); (case k => exact rfl); (case N => k_asm); (case O => assumption); (case h0 => assumption); (case h1 => assumption); (case h2 => assumption); (case h3 => assumption); (case h4 => assumption); (case d => ktr_room); (case u => ktr_units)); intro al' n3' c1' h' tk' off' cf' ph' f1' f2' f3' f4' F' N' R'; ((have NN := nj_d N' R'); (have O3 := offr1 off'); clear N' R'))
    | (k_here; k_dflt (refine' op_none_tried ?B ?F ?X ?T ?k (na_c ?N) (nb_c ?N) (off_apart ?O) ?h0 ?h1 ?h2 ?h3 ?h4 ?d ?u ?_; (case B => k_asm); (case F => k_asm); (case X => k_asm); (case T => k_asm); (case k => exact rfl); (case N => k_asm); (case O => assumption); (case h0 => assumption); (case h1 => assumption); (case h2 => assumption); (case h3 => assumption); (case h4 => assumption); (case d => ktr_room); (case u => ktr_units)); intro al' n3' c1' h' tk' off' cf' ph' f1' f2' f3' f4' F' N' R'; ((have NN := nj_c N' R'); (have O2 := off_d off' f1' f3'); (have hq := eqlt f2' (by assumption)); clear N' R'))))) | (k_unfold; (try dsimp only)) | (k_end; wrow_close) | walk1 | (dsimp only; walk1) | (leave1; walk_say "STEP leave1"; try dsimp only) | fail "no step")
  all_goals (refine' ret _ _ _ ?q0 ?q1 ?q2 ?q3 ?q4; (case q4 => exact nw1 (nw1 (by assumption))); (case q3 => assumption); (case q2 => assumption); (case q1 => assumption); (case q0 => assumption))
set_option maxRecDepth 100000 in
set_option maxHeartbeats 1500000 in
theorem s2_no {w : World} {p : Program} {loose : List Str} {mean : ExcName → Option Value} {mg mb : Str → Option Value} {dp un : Nat} {gd : Option (List Code)} {a : Addr} {ccd : Value} {outer : List Env} {A₀ : Around} {base h₀ : Heap} {L : Addr} {m : Str → Option Value} {s : Shared} {Q : Flow → Shared → Prop} {E : Value → Shared → Prop} {rest : List (Addr × Obj)} {awl ad : Addr} {nl nd : Nat} {ws : List Value}
    (B : Below A₀ base outer h₀) (F : Fr h₀ L s.heap (kstB m [("went", .ref awl), ("due", .ref ad)])) (X : (hd.heap_1 w.params).In h₀) (T : Top p loose mean mg mb h₀)
    (N : News h₀ L s.heap ((ad, listOf #[] nd) :: (awl, listOf ws.toArray nl) :: rest)) (hl : ws.length ≤ 20)
    (hdp : dp + 14 < recursionLimit) (hun : un + 400 < cLine)
    (ret : ∀ (awl2 : Addr) (nl2 : Nat) (h1 : Heap) (tk1 : Nat), (∀ q ∈ rest, @LT.lt Nat _ q.1 awl2) → Fr h₀ L h1 (fun y => if y = "went" then some (.ref awl2) else if y = "is_wanted" then some (.bool false) else kstB m [("went", .ref awl), ("due", .ref ad)] y) → News h₀ L h1 ((awl2, listOf ws.toArray nl2) :: rest) → Q .next { s with heap := h1, toks := tk1 }) :
    wpAny (model PySem.Challenge.rw_pf0276_01.row.toRowW.prog w) (ktrTop dp un gd "law" lawScope L a ccd [] outer) (exec (turnSt 2) (envX "law" lawScope L a ccd [])) Q E s := by
  generalize hS : lawScope = S
  conv at hS => lhs; whnf
  subst hS
  generalize hS : turnSt 2 = S
  conv at hS => lhs; whnf
  subst hS
  revert X; k_fill; intro X
  w_top off
  k_with_none
  (k_with "call builtin:list.append" => (k_here; (with_reducible show wpAny _ _ (call (Value.builtin _) [Value.ref _, Value.bytes _ _]) _ _ _); k_dflt (refine' append_K ?k1 ?k2 ?k3 ?_ ?z; (case k1 | k2 => k_asm); (case k3 => k_upd); (case z => first | size_fits | (simp only [List.size_toArray]; refine Nat.le_trans (by assumption) ?_; decide) | (simp only [List.size_toArray]; refine Nat.lt_of_le_of_lt (by assumption) ?_; decide)); k_whole); intro h'_w F'_w N'_w; (try k_sweep)))
  (k_with "exec Assign cons ListComp" => (k_here; k_dflt (refine empty_assign (F₀ := by k_asm) (by rfl) (by with_unfolding_all rfl) (by with_unfolding_all rfl) (by decide) (by rfl) (by decide) (by rfl) (by rfl) ?_)))
  (k_with "eval ListComp" => (k_here; k_dflt (refine empty_eval (F₀ := by k_asm) (by with_unfolding_all rfl) (by decide) (by rfl) (by decide) ?_)))
  (k_with "EmptySrc" => (k_here; k_dflt (refine' EmptySrc.intro ?a ?b ?c ?d ?_; (case a => exact rfl); (case b | c => k_asm); (case d => k_mem)); (first | unfold FinA0 | unfold FinE0); intro D'_w h'_w tk'_w F'_w N'_w l1_w; k_lt l1_w; (try dsimp only); (try k_sweep)))
  (k_with "binaryOp Add ref ref" => (k_here; (with_reducible show wpAny _ _ (binaryOp _ (Value.ref _) (Value.ref _)) _ _ _); k_dflt (refine' add_led ?F ?N ?a ?b ?z ?_; (case F | N => k_asm); (case a | b => k_mem); (case z => (simp only [sizeLine_eq, List.length_cons, List.length_nil, List.length_append]; omega))); intro D'_w h'_w l1_w F'_w N'_w; (try k_lt l1_w); (try k_sweep)))
  k_steps
  all_goals ((have h'_w := True.intro); (have F'_w := True.intro); (have N'_w := True.intro); (have tk'_w := True.intro); (have l1_w := True.intro); (have D'_w := True.intro); rename_i D2 h5 tk lA D1 h4 lB D0 h3 lC h2 h1x h0 Fz Nz; rw [List.append_nil] at Nz; exact ret _ _ _ _ (kst_ltOf lB.2.2.2) Fz (fun q hq => Nz q (nw_b hq)))
section
local macro_rules | `(tactic| k_get) => `(tactic| assumption)
set_option maxRecDepth 100000 in
set_option maxHeartbeats 1500000 in
theorem s6_tried {w : World} {p : Program} {loose : List Str} {mean : ExcName → Option Value} {mg mb : Str → Option Value} {dp un : Nat} {gd : Option (List Code)} {a : Addr} {ccd : Value} {outer : List Env} {A₀ : Around} {base h₀ : Heap} {L : Addr} {m : Str → Option Value} {s : Shared} {Q : Flow → Shared → Prop} {E : Value → Shared → Prop} {rest : List (Addr × Obj)} {ac dc ap dP aw dw : Addr} {nc nP nw kc : Nat} {ec eP ew : List DictEntry} {tw ts tz : Tok}
    (B : Below A₀ base outer h₀) (F : Fr h₀ L s.heap (kstB m [("state", .str (Str.ofString "tried") ts), ("conn", .ref ac)])) (X : (hd.heap_1 w.params).In h₀) (T : Top p loose mean mg mb h₀)
    (N : News h₀ L s.heap ((ac, instObj 449 dc) :: (dc, dictOf ec nc) :: (ap, instObj 282 dP) :: (dP, dictOf eP nP) :: (aw, instObj 167 dw) :: (dw, dictOf ew nw) :: rest)) (aC : AbsD ec kc) (aP : AbsD eP 20) (aW : AbsD ew 20) (gecpaths : getL "paths" ec = some (some (.ref ap))) (gePactive : getL "active" eP = some (some (.ref aw))) (gewaddress : getL "address" ew = some (some (.str (Str.ofString "away") tz)))
    (hdp : dp + 14 < recursionLimit) (hun : un + 400 < cLine)
    (ret : ∀  (h1 : Heap) (tk1 : Nat), Fr h₀ L h1 (kstB m [("state", .str (Str.ofString "tried") ts), ("conn", .ref ac)]) → News h₀ L h1 (rest) → Q .next { s with heap := h1, toks := tk1 }) :
    wpAny (model PySem.Challenge.rw_pf0276_01.row.toRowW.prog w) (ktrTop dp un gd "law" lawScope L a ccd [] outer) (exec (turnSt 6) (envX "law" lawScope L a ccd [])) Q E s := by
  generalize hS : lawScope = S
  conv at hS => lhs; whnf
  subst hS
  generalize hS : turnSt 6 = S
  conv at hS => lhs; whnf
  subst hS
  revert X; k_fill; intro X
  w_top off
  k_with_none
  k_steps
  all_goals (refine' ret _ _ ?q0 ?q1; (case q1 => exact nwd6 (by assumption)); (case q0 => assumption))
set_option maxRecDepth 100000 in
set_option maxHeartbeats 1500000 in
theorem s6_proven {w : World} {p : Program} {loose : List Str} {mean : ExcName → Option Value} {mg mb : Str → Option Value} {dp un : Nat} {gd : Option (List Code)} {a : Addr} {ccd : Value} {outer : List Env} {A₀ : Around} {base h₀ : Heap} {L : Addr} {m : Str → Option Value} {s : Shared} {Q : Flow → Shared → Prop} {E : Value → Shared → Prop} {rest : List (Addr × Obj)} {ac dc ap dP aw dw : Addr} {nc nP nw kc : Nat} {ec eP ew : List DictEntry} {tw ts tz : Tok}
    (B : Below A₀ base outer h₀) (F : Fr h₀ L s.heap (kstB m [("state", .str (Str.ofString "proven") ts), ("conn", .ref ac)])) (X : (hd.heap_1 w.params).In h₀) (T : Top p loose mean mg mb h₀)
    (N : News h₀ L s.heap ((ac, instObj 449 dc) :: (dc, dictOf ec nc) :: (ap, instObj 282 dP) :: (dP, dictOf eP nP) :: (aw, instObj 167 dw) :: (dw, dictOf ew nw) :: rest)) (aC : AbsD ec kc) (aP : AbsD eP 20) (aW : AbsD ew 20) (gecpaths : getL "paths" ec = some (some (.ref ap))) (gePactive : getL "active" eP = some (some (.ref aw))) (gewaddress : getL "address" ew = some (some (.str (Str.ofString "away") tz)))
    (hdp : dp + 14 < recursionLimit) (hun : un + 400 < cLine)
    (ret : ∀  (h1 : Heap) (tk1 : Nat), Fr h₀ L h1 (kstB m [("state", .str (Str.ofString "proven") ts), ("conn", .ref ac)]) → News h₀ L h1 (rest) → Q .next { s with heap := h1, toks := tk1 }) :
    wpAny (model PySem.Challenge.rw_pf0276_01.row.toRowW.prog w) (ktrTop dp un gd "law" lawScope L a ccd [] outer) (exec (turnSt 6) (envX "law" lawScope L a ccd [])) Q E s := by
  generalize hS : lawScope = S
  conv at hS => lhs; whnf
  subst hS
  generalize hS : turnSt 6 = S
  conv at hS => lhs; whnf
  subst hS
  revert X; k_fill; intro X
  w_top off
  k_with_none
  k_steps
  all_goals (refine' ret _ _ ?q0 ?q1; (case q1 => exact nwd6 (by assumption)); (case q0 => assumption))
set_option maxRecDepth 100000 in
set_option maxHeartbeats 1500000 in
theorem s6_home {w : World} {p : Program} {loose : List Str} {mean : ExcName → Option Value} {mg mb : Str → Option Value} {dp un : Nat} {gd : Option (List Code)} {a : Addr} {ccd : Value} {outer : List Env} {A₀ : Around} {base h₀ : Heap} {L : Addr} {m : Str → Option Value} {s : Shared} {Q : Flow → Shared → Prop} {E : Value → Shared → Prop} {rest : List (Addr × Obj)} {ac dc ap dP ah dh : Addr} {nc nP nw kc : Nat} {ec eP eh : List DictEntry} {tw ts tz : Tok}
    (B : Below A₀ base outer h₀) (F : Fr h₀ L s.heap (kstB m [("state", .str (Str.ofString "home") ts), ("conn", .ref ac)])) (X : (hd.heap_1 w.params).In h₀) (T : Top p loose mean mg mb h₀)
    (N : News h₀ L s.heap ((ac, instObj 449 dc) :: (dc, dictOf ec nc) :: (ap, instObj 282 dP) :: (dP, dictOf eP nP) :: (ah, instObj 167 dh) :: (dh, dictOf eh nw) :: rest)) (aC : AbsD ec kc) (aP : AbsD eP 20) (aW : AbsD eh 20) (gecpaths : getL "paths" ec = some (some (.ref ap))) (gePactive : getL "active" eP = some (some (.ref ah))) (gehaddress : getL "address" eh = some (some (.str (Str.ofString "home") tz)))
    (hdp : dp + 14 < recursionLimit) (hun : un + 400 < cLine)
    (ret : ∀  (h1 : Heap) (tk1 : Nat), Fr h₀ L h1 (kstB m [("state", .str (Str.ofString "home") ts), ("conn", .ref ac)]) → News h₀ L h1 (rest) → Q .next { s with heap := h1, toks := tk1 }) :
    wpAny (model PySem.Challenge.rw_pf0276_01.row.toRowW.prog w) (ktrTop dp un gd "law" lawScope L a ccd [] outer) (exec (turnSt 6) (envX "law" lawScope L a ccd [])) Q E s := by
  generalize hS : lawScope = S
  conv at hS => lhs; whnf
  subst hS
  generalize hS : turnSt 6 = S
  conv at hS => lhs; whnf
  subst hS
  revert X; k_fill; intro X
  w_top off
  k_with_none
  k_steps
  all_goals (refine' ret _ _ ?q0 ?q1; (case q1 => exact nwd6 (by assumption)); (case q0 => assumption))
set_option maxRecDepth 100000 in
set_option maxHeartbeats 1500000 in
theorem s7_tried {w : World} {p : Program} {loose : List Str} {mean : ExcName → Option Value} {mg mb : Str → Option Value} {dp un : Nat} {gd : Option (List Code)} {a : Addr} {ccd : Value} {outer : List Env} {A₀ : Around} {base h₀ : Heap} {L : Addr} {m : Str → Option Value} {s : Shared} {Q : Flow → Shared → Prop} {E : Value → Shared → Prop} {rest : List (Addr × Obj)} {ac dc ap dP aw dw : Addr} {nc nP nw kc : Nat} {ec eP ew : List DictEntry} {tw ts tz : Tok}
    (B : Below A₀ base outer h₀) (F : Fr h₀ L s.heap (kstB m [("state", .str (Str.ofString "tried") ts), ("conn", .ref ac)])) (X : (hd.heap_1 w.params).In h₀) (T : Top p loose mean mg mb h₀)
    (N : News h₀ L s.heap ((ac, instObj 449 dc) :: (dc, dictOf ec nc) :: (ap, instObj 282 dP) :: (dP, dictOf eP nP) :: (aw, instObj 167 dw) :: (dw, dictOf ew nw) :: rest)) (aC : AbsD ec kc) (aP : AbsD eP 20) (aW : AbsD ew 20) (gecpaths : getL "paths" ec = some (some (.ref ap))) (gePactive : getL "active" eP = some (some (.ref aw))) (gewstate : getL "state" ew = some (some (.str (Str.ofString "trying") tz))) (mewisproven : getL "is_proven" ew = some none)
    (hdp : dp + 14 < recursionLimit) (hun : un + 400 < cLine)
    (ret : ∀  (h1 : Heap) (tk1 : Nat), Fr h₀ L h1 (kstB m [("state", .str (Str.ofString "tried") ts), ("conn", .ref ac)]) → News h₀ L h1 (rest) → Q .next { s with heap := h1, toks := tk1 }) :
    wpAny (model PySem.Challenge.rw_pf0276_01.row.toRowW.prog w) (ktrTop dp un gd "law" lawScope L a ccd [] outer) (exec (turnSt 7) (envX "law" lawScope L a ccd [])) Q E s := by
  generalize hS : lawScope = S
  conv at hS => lhs; whnf
  subst hS
  generalize hS : turnSt 7 = S
  conv at hS => lhs; whnf
  subst hS
  revert X; k_fill; intro X
  w_top off
  k_with_none
  k_steps
  all_goals (refine' ret _ _ ?q0 ?q1; (case q1 => exact nwd6 (by assumption)); (case q0 => assumption))
set_option maxRecDepth 100000 in
set_option maxHeartbeats 1500000 in
theorem s7_proven {w : World} {p : Program} {loose : List Str} {mean : ExcName → Option Value} {mg mb : Str → Option Value} {dp un : Nat} {gd : Option (List Code)} {a : Addr} {ccd : Value} {outer : List Env} {A₀ : Around} {base h₀ : Heap} {L : Addr} {m : Str → Option Value} {s : Shared} {Q : Flow → Shared → Prop} {E : Value → Shared → Prop} {rest : List (Addr × Obj)} {ac dc ap dP aw dw : Addr} {nc nP nw kc : Nat} {ec eP ew : List DictEntry} {tw ts tz : Tok}
    (B : Below A₀ base outer h₀) (F : Fr h₀ L s.heap (kstB m [("state", .str (Str.ofString "proven") ts), ("conn", .ref ac)])) (X : (hd.heap_1 w.params).In h₀) (T : Top p loose mean mg mb h₀)
    (N : News h₀ L s.heap ((ac, instObj 449 dc) :: (dc, dictOf ec nc) :: (ap, instObj 282 dP) :: (dP, dictOf eP nP) :: (aw, instObj 167 dw) :: (dw, dictOf ew nw) :: rest)) (aC : AbsD ec kc) (aP : AbsD eP 20) (aW : AbsD ew 20) (gecpaths : getL "paths" ec = some (some (.ref ap))) (gePactive : getL "active" eP = some (some (.ref aw))) (gewstate : getL "state" ew = some (some (.str (Str.ofString "proven") tz))) (mewisproven : getL "is_proven" ew = some none)
    (hdp : dp + 14 < recursionLimit) (hun : un + 400 < cLine)
    (ret : ∀  (h1 : Heap) (tk1 : Nat), Fr h₀ L h1 (kstB m [("state", .str (Str.ofString "proven") ts), ("conn", .ref ac)]) → News h₀ L h1 (rest) → Q .next { s with heap := h1, toks := tk1 }) :
    wpAny (model PySem.Challenge.rw_pf0276_01.row.toRowW.prog w) (ktrTop dp un gd "law" lawScope L a ccd [] outer) (exec (turnSt 7) (envX "law" lawScope L a ccd [])) Q E s := by
  generalize hS : lawScope = S
  conv at hS => lhs; whnf
  subst hS
  generalize hS : turnSt 7 = S
  conv at hS => lhs; whnf
  subst hS
  revert X; k_fill; intro X
  w_top off
  k_with_none
  k_steps
  all_goals (refine' ret _ _ ?q0 ?q1; (case q1 => exact nwd6 (by assumption)); (case q0 => assumption))
set_option maxRecDepth 100000 in
set_option maxHeartbeats 1500000 in
theorem s7_home {w : World} {p : Program} {loose : List Str} {mean : ExcName → Option Value} {mg mb : Str → Option Value} {dp un : Nat} {gd : Option (List Code)} {a : Addr} {ccd : Value} {outer : List Env} {A₀ : Around} {base h₀ : Heap} {L : Addr} {m : Str → Option Value} {s : Shared} {Q : Flow → Shared → Prop} {E : Value → Shared → Prop} {rest : List (Addr × Obj)} {ac dc ap dP ah dh : Addr} {nc nP nw kc : Nat} {ec eP eh : List DictEntry} {tw ts tz : Tok}
    (B : Below A₀ base outer h₀) (F : Fr h₀ L s.heap (kstB m [("state", .str (Str.ofString "home") ts), ("conn", .ref ac)])) (X : (hd.heap_1 w.params).In h₀) (T : Top p loose mean mg mb h₀)
    (N : News h₀ L s.heap ((ac, instObj 449 dc) :: (dc, dictOf ec nc) :: (ap, instObj 282 dP) :: (dP, dictOf eP nP) :: (ah, instObj 167 dh) :: (dh, dictOf eh nw) :: rest)) (aC : AbsD ec kc) (aP : AbsD eP 20) (aW : AbsD eh 20) (gecpaths : getL "paths" ec = some (some (.ref ap))) (gePactive : getL "active" eP = some (some (.ref ah))) (gehstate : getL "state" eh = some (some (.str (Str.ofString "proven") tz))) (mehisproven : getL "is_proven" eh = some none)
    (hdp : dp + 14 < recursionLimit) (hun : un + 400 < cLine)
    (ret : ∀  (h1 : Heap) (tk1 : Nat), Fr h₀ L h1 (kstB m [("state", .str (Str.ofString "home") ts), ("conn", .ref ac)]) → News h₀ L h1 (rest) → Q .next { s with heap := h1, toks := tk1 }) :
    wpAny (model PySem.Challenge.rw_pf0276_01.row.toRowW.prog w) (ktrTop dp un gd "law" lawScope L a ccd [] outer) (exec (turnSt 7) (envX "law" lawScope L a ccd [])) Q E s := by
  generalize hS : lawScope = S
  conv at hS => lhs; whnf
  subst hS
  generalize hS : turnSt 7 = S
  conv at hS => lhs; whnf
  subst hS
  revert X; k_fill; intro X
  w_top off
  k_with_none
  k_steps
  all_goals (refine' ret _ _ ?q0 ?q1; (case q1 => exact nwd6 (by assumption)); (case q0 => assumption))
set_option maxRecDepth 100000 in
set_option maxHeartbeats 1500000 in
theorem l5 {w : World} {p : Program} {loose : List Str} {mean : ExcName → Option Value} {mg mb : Str → Option Value} {dp un : Nat} {gd : Option (List Code)} {a : Addr} {ccd : Value} {outer : List Env} {A₀ : Around} {base h₀ : Heap} {L : Addr} {m : Str → Option Value} {s : Shared} {Q : Flow → Shared → Prop} {E : Value → Shared → Prop} {rest : List (Addr × Obj)} {ac dc ao awl : Addr} {nc no nl n kc : Nat} {ec : List DictEntry} {ws : List Value} {tq : Tok}
    (B : Below A₀ base outer h₀) (F : Fr h₀ L s.heap (kstB m [("went", .ref awl), ("conn", .ref ac)])) (X : (hd.heap_1 w.params).In h₀) (T : Top p loose mean mg mb h₀)
    (N : News h₀ L s.heap ((ac, instObj 449 dc) :: (dc, dictOf ec nc) :: (ao, listOf #[] no) :: (awl, listOf ws.toArray nl) :: rest)) (aC : AbsD ec kc) (g1 : getL "challenged" ec = some (some (.int (n : Int) tq))) (g2 : getL "owed" ec = some (some (.ref ao))) (hl : ws.length = n) (hn : n ≤ 20)
    (hdp : dp + 14 < recursionLimit) (hun : un + 400 < cLine)
    (ret : ∀  (h1 : Heap) (tk1 : Nat), Fr h₀ L h1 (kstB m [("went", .ref awl), ("conn", .ref ac)]) → News h₀ L h1 (rest) → Q (.ret (.bool true)) { s with heap := h1, toks := tk1 }) :
    wpAny (model PySem.Challenge.rw_pf0276_01.row.toRowW.prog w) (ktrTop dp un gd "law" lawScope L a ccd [] outer) (exec (lawSt 5) (envX "law" lawScope L a ccd [])) Q E s := by
  generalize hS : lawScope = S
  conv at hS => lhs; whnf
  subst hS
  generalize hS : lawSt 5 = S
  conv at hS => lhs; whnf
  subst hS
  subst hl
  revert X; k_fill; intro X
  w_top off
  k_with_none
  (k_with "call builtin:len" => (k_here; (with_reducible show wpAny _ _ (call (Value.builtin "len") [Value.ref _]) _ _ _); k_dflt (refine' kst_len ?k1 ?k2 ?k3 ?k4 ?_; (case k1 => k_asm); (case k2 => k_mem); (case k3 => exact rfl); (case k4 => omega)); k_whole))
  k_steps
  all_goals (first | exact absurd rfl (by assumption : ((ws.length : Nat) : Int) ≠ (ws.length : Int)) | (refine' ret _ _ ?q0 ?q1; (case q1 => exact nw1 (nw1 (nw1 (nw1 (nw1 (by assumption)))))); (case q0 => assumption)))
set_option maxRecDepth 100000 in
set_option maxHeartbeats 1500000 in
theorem s3_proven {w : World} {p : Program} {loose : List Str} {mean : ExcName → Option Value} {mg mb : Str → Option Value} {dp un : Nat} {gd : Option (List Code)} {a : Addr} {ccd : Value} {outer : List Env} {A₀ : Around} {base h₀ : Heap} {L : Addr} {m : Str → Option Value} {s : Shared} {Q : Flow → Shared → Prop} {E : Value → Shared → Prop} {rest : List (Addr × Obj)} {x : Fx} {c : Ch} {n : Nat} {wait : Int} {ts tw : Tok} {b : Bool}
    (B : Below A₀ base outer h₀) (F : Fr h₀ L s.heap (kstB m [("state", .str (Str.ofString "proven") ts), ("conn", .ref x.ac), ("wait", .int wait tw)])) (X : (hd.heap_1 w.params).In h₀) (T : Top p loose mean mg mb h₀)
    (N : News h₀ L s.heap ((x.ac, instObj 449 x.dc) :: (x.dc, dictOf c.ec c.nc) :: (x.ap, instObj 282 x.dP) :: (x.dP, dictOf c.eP c.nP) :: (CL x c ++ rest))) (cf : CF w wait x c n) (ph : PhF wait x c n (.proven)) (off : OffAll (CL x c) rest)
    (hdp : dp + 14 < recursionLimit) (hun : un + 400 < cLine)
    (ret : ∀  (h1 : Heap) (tk1 : Nat), Fr h₀ L h1 (kstB m [("state", .str (Str.ofString "proven") ts), ("conn", .ref x.ac), ("wait", .int wait tw)]) → News h₀ L h1 (CL x c ++ rest) → Q .next { s with heap := h1, toks := tk1 }) :
    wpAny (model PySem.Challenge.rw_pf0276_01.row.toRowW.prog w) (ktrTop dp un gd "law" lawScope L a ccd [] outer) (exec (turnSt 3) (envX "law" lawScope L a ccd [])) Q E s := by
  generalize hS : lawScope = S
  conv at hS => lhs; whnf
  subst hS
  generalize hS : turnSt 3 = S
  conv at hS => lhs; whnf
  subst hS
  have zaC := cf.aC
  have zaP := cf.aP
  have zg := cf.paths
  have zm := cf.mnt
  have zd := ph.2.1
  revert X; k_fill; intro X
  w_top off
  k_with_none
  (k_with "call ref" => (k_here; k_dflt (refine stopAt ?a ?_; (case a => exact rfl))))
  repeat' (first | (refine Stop.mk ?_; (with_reducible (first
    | (k_here; k_dflt (refine' op_next_none ?B ?F ?X ?T ?k (na4 ?N) (nb4 ?N) (off_apart ?O) ?h0 ?h1 ?d ?u ?_; (case B => k_asm); (case F => k_asm); (case X => k_asm); (case T => k_asm); (case k => exact rfl); (case N => k_asm); (case O => assumption); (case h0 => assumption); (case h1 => assumption); (case d => ktr_room); (case u => ktr_units)); intro h' tk' F' N' R'; ((have NN := newsApp N' R'); clear N' R'))))) | (k_unfold; (try dsimp only)) | (k_end; wrow_close) | walk1 | (dsimp only; walk1) | (leave1; walk_say "STEP leave1"; try dsimp only) | fail "no step")
  all_goals (first | exact absurd rfl (by assumption : (3 : Int) * wait ≠ 3 * wait) | (refine' ret _ _ ?q0 ?q1; (case q1 => assumption); (case q0 => assumption)))
set_option maxRecDepth 100000 in
set_option maxHeartbeats 1500000 in
theorem s3_home {w : World} {p : Program} {loose : List Str} {mean : ExcName → Option Value} {mg mb : Str → Option Value} {dp un : Nat} {gd : Option (List Code)} {a : Addr} {ccd : Value} {outer : List Env} {A₀ : Around} {base h₀ : Heap} {L : Addr} {m : Str → Option Value} {s : Shared} {Q : Flow → Shared → Prop} {E : Value → Shared → Prop} {rest : List (Addr × Obj)} {x : Fx} {c : Ch} {n : Nat} {wait : Int} {ts tw : Tok} {b : Bool}
    (B : Below A₀ base outer h₀) (F : Fr h₀ L s.heap (kstB m [("state", .str (Str.ofString "home") ts), ("conn", .ref x.ac), ("wait", .int wait tw)])) (X : (hd.heap_1 w.params).In h₀) (T : Top p loose mean mg mb h₀)
    (N : News h₀ L s.heap ((x.ac, instObj 449 x.dc) :: (x.dc, dictOf c.ec c.nc) :: (x.ap, instObj 282 x.dP) :: (x.dP, dictOf c.eP c.nP) :: (CL x c ++ rest))) (cf : CF w wait x c n) (ph : PhF wait x c n (.home)) (off : OffAll (CL x c) rest)
    (hdp : dp + 14 < recursionLimit) (hun : un + 400 < cLine)
    (ret : ∀  (h1 : Heap) (tk1 : Nat), Fr h₀ L h1 (kstB m [("state", .str (Str.ofString "home") ts), ("conn", .ref x.ac), ("wait", .int wait tw)]) → News h₀ L h1 (CL x c ++ rest) → Q .next { s with heap := h1, toks := tk1 }) :
    wpAny (model PySem.Challenge.rw_pf0276_01.row.toRowW.prog w) (ktrTop dp un gd "law" lawScope L a ccd [] outer) (exec (turnSt 3) (envX "law" lawScope L a ccd [])) Q E s := by
  generalize hS : lawScope = S
  conv at hS => lhs; whnf
  subst hS
  generalize hS : turnSt 3 = S
  conv at hS => lhs; whnf
  subst hS
  have zaC := cf.aC
  have zaP := cf.aP
  have zg := cf.paths
  have zm := cf.mnt
  have zd := ph.2.1
  revert X; k_fill; intro X
  w_top off
  k_with_none
  (k_with "call ref" => (k_here; k_dflt (refine stopAt ?a ?_; (case a => exact rfl))))
  repeat' (first | (refine Stop.mk ?_; (with_reducible (first
    | (k_here; k_dflt (refine' op_next_none ?B ?F ?X ?T ?k (na4 ?N) (nb4 ?N) (off_apart ?O) ?h0 ?h1 ?d ?u ?_; (case B => k_asm); (case F => k_asm); (case X => k_asm); (case T => k_asm); (case k => exact rfl); (case N => k_asm); (case O => assumption); (case h0 => assumption); (case h1 => assumption); (case d => ktr_room); (case u => ktr_units)); intro h' tk' F' N' R'; ((have NN := newsApp N' R'); clear N' R'))))) | (k_unfold; (try dsimp only)) | (k_end; wrow_close) | walk1 | (dsimp only; walk1) | (leave1; walk_say "STEP leave1"; try dsimp only) | fail "no step")
  all_goals (first | exact absurd rfl (by assumption : (3 : Int) * wait ≠ 3 * wait) | (refine' ret _ _ ?q0 ?q1; (case q1 => assumption); (case q0 => assumption)))
set_option maxRecDepth 100000 in
set_option maxHeartbeats 1500000 in
theorem s3_tried {w : World} {p : Program} {loose : List Str} {mean : ExcName → Option Value} {mg mb : Str → Option Value} {dp un : Nat} {gd : Option (List Code)} {a : Addr} {ccd : Value} {outer : List Env} {A₀ : Around} {base h₀ : Heap} {L : Addr} {m : Str → Option Value} {s : Shared} {Q : Flow → Shared → Prop} {E : Value → Shared → Prop} {rest : List (Addr × Obj)} {x : Fx} {c : Ch} {n : Nat} {wait : Int} {ts tw : Tok} {b : Bool}
    (B : Below A₀ base outer h₀) (F : Fr h₀ L s.heap (kstB m [("state", .str (Str.ofString "tried") ts), ("conn", .ref x.ac), ("wait", .int wait tw)])) (X : (hd.heap_1 w.params).In h₀) (T : Top p loose mean mg mb h₀)
    (N : News h₀ L s.heap ((x.ac, instObj 449 x.dc) :: (x.dc, dictOf c.ec c.nc) :: (x.ap, instObj 282 x.dP) :: (x.dP, dictOf c.eP c.nP) :: (CL x c ++ rest))) (cf : CF w wait x c n) (ph : PhF wait x c n (.tried b)) (off : OffAll (CL x c) rest)
    (hdp : dp + 14 < recursionLimit) (hun : un + 400 < cLine)
    (ret : ∀  (h1 : Heap) (tk1 : Nat), Fr h₀ L h1 (kstB m [("state", .str (Str.ofString "tried") ts), ("conn", .ref x.ac), ("wait", .int wait tw)]) → News h₀ L h1 (CL x c ++ rest) → Q .next { s with heap := h1, toks := tk1 }) :
    wpAny (model PySem.Challenge.rw_pf0276_01.row.toRowW.prog w) (ktrTop dp un gd "law" lawScope L a ccd [] outer) (exec (turnSt 3) (envX "law" lawScope L a ccd [])) Q E s := by
  generalize hS : lawScope = S
  conv at hS => lhs; whnf
  subst hS
  generalize hS : turnSt 3 = S
  conv at hS => lhs; whnf
  subst hS
  have zaC := cf.aC
  have zaP := cf.aP
  have zg := cf.paths
  have zm := cf.mnt
  revert X; k_fill; intro X
  w_top off
  k_with_none
  (k_with "call ref" => (k_here; k_dflt (refine stopAt ?a ?_; (case a => exact rfl))))
  repeat' (first | (refine Stop.mk ?_; (with_reducible (first
    | (k_here; k_dflt (refine' op_next_tried ?B ?F ?X ?T ?k (na4 ?N) (nb4 ?N) (off_apart ?O) ?h0 ?h1 ?d ?u ?_; (case B => k_asm); (case F => k_asm); (case X => k_asm); (case T => k_asm); (case k => exact rfl); (case N => k_asm); (case O => assumption); (case h0 => assumption); (case h1 => assumption); (case d => ktr_room); (case u => ktr_units)); intro q' h' tk' F' N' R'; ((have NN := newsApp N' R'); clear N' R'))))) | (k_unfold; (try dsimp only)) | (k_end; wrow_close) | walk1 | (dsimp only; walk1) | (leave1; walk_say "STEP leave1"; try dsimp only) | fail "no step")
  all_goals (first | exact absurd rfl (by assumption : (3 : Int) * wait ≠ 3 * wait) | (refine' ret _ _ ?q0 ?q1; (case q1 => assumption); (case q0 => assumption)))
set_option maxRecDepth 100000 in
set_option maxHeartbeats 1500000 in
theorem l3 {w : World} {p : Program} {loose : List Str} {mean : ExcName → Option Value} {mg mb : Str → Option Value} {dp un : Nat} {gd : Option (List Code)} {a : Addr} {ccd : Value} {outer : List Env} {A₀ : Around} {base h₀ : Heap} {L : Addr} {m : Str → Option Value} {s : Shared} {Q : Flow → Shared → Prop} {E : Value → Shared → Prop} {rest : List (Addr × Obj)} {x : Fx} {c : Ch} {n : Nat} {wait : Int}
    (B : Below A₀ base outer h₀) (F : Fr h₀ L s.heap (kstB m [("conn", .ref x.ac)])) (X : (hd.heap_1 w.params).In h₀) (T : Top p loose mean mg mb h₀)
    (N : News h₀ L s.heap ((x.ac, instObj 449 x.dc) :: (x.dc, dictOf c.ec c.nc) :: (x.ap, instObj 282 x.dP) :: (x.dP, dictOf c.eP c.nP) :: (CL x c ++ rest))) (cf : CF w wait x c 0) (p0 : P0 x c) (off : OffAll (CL x c) rest)
    (hdp : dp + 14 < recursionLimit) (hun : un + 400 < cLine)
    (ret : ∀ (c1 : Ch) (h1 : Heap) (tk1 : Nat), (CF w wait x c1 0) → (PhF wait x c1 0 .fresh) → (OffAll (CL x c1) rest) → Fr h₀ L h1 (kstB m [("conn", .ref x.ac)]) → News h₀ L h1 (CL x c1 ++ rest) → Q .next { s with heap := h1, toks := tk1 }) :
    wpAny (model PySem.Challenge.rw_pf0276_01.row.toRowW.prog w) (ktrTop dp un gd "law" lawScope L a ccd [] outer) (exec (lawSt 3) (envX "law" lawScope L a ccd [])) Q E s := by
  generalize hS : lawScope = S
  conv at hS => lhs; whnf
  subst hS
  generalize hS : lawSt 3 = S
  conv at hS => lhs; whnf
  subst hS
  have zaC := cf.aC
  have zaP := cf.aP
  have zg := cf.paths
  have zm := p0.monp
  revert X; k_fill; intro X
  w_top off
  k_with_none
  (k_with "call ref" => (k_here; k_dflt (refine stopAt ?a ?_; (case a => exact rfl))))
  repeat' (first | (refine Stop.mk ?_; (with_reducible (first
    | (k_here; k_dflt (refine' op_packet ?B ?F ?X ?T ?k (na4 ?N) (nb4 ?N) (off_apart ?O) ?h0 ?h1 ?h2 ?d ?u ?_; (case B => k_asm); (case F => k_asm); (case X => k_asm); (case T => k_asm); (case k => exact rfl); (case N => k_asm); (case O => assumption); (case h0 => assumption); (case h1 => assumption); (case h2 => exact rfl); (case d => ktr_room); (case u => ktr_units)); intro c' h' tk' off' cf' ph' F' N' R'; ((have NN := newsApp N' R'); clear N' R'))))) | (k_unfold; (try dsimp only)) | (k_end; wrow_close) | walk1 | (dsimp only; walk1) | (leave1; walk_say "STEP leave1"; try dsimp only) | fail "no step")
  all_goals (refine' ret _ _ _ ?q0 ?q1 ?q2 ?q3 ?q4; (case q4 => assumption); (case q3 => assumption); (case q2 => assumption); (case q1 => assumption); (case q0 => assumption))
set_option maxRecDepth 100000 in
set_option maxHeartbeats 1500000 in
theorem s5t_home {w : World} {p : Program} {loose : List Str} {mean : ExcName → Option Value} {mg mb : Str → Option Value} {dp un : Nat} {gd : Option (List Code)} {a : Addr} {ccd : Value} {outer : List Env} {A₀ : Around} {base h₀ : Heap} {L : Addr} {m : Str → Option Value} {s : Shared} {Q : Flow → Shared → Prop} {E : Value → Shared → Prop} {rest : List (Addr × Obj)} {x : Fx} {c : Ch} {n : Nat} {wait : Int} {ts td tr tn tw : Tok} {r now : Int} {awl : Addr} {nl : Nat} {ws : List Value} {b0 : Array UInt8} {b : Bool}
    (B : Below A₀ base outer h₀) (F : Fr h₀ L s.heap (kstB m [("state", .str (Str.ofString "home") ts), ("conn", .ref x.ac), ("form", .int 3 tr), ("data", .bytes b0 td), ("went", .ref awl), ("now", .int now tn), ("wait", .int wait tw)])) (X : (hd.heap_1 w.params).In h₀) (T : Top p loose mean mg mb h₀)
    (N : News h₀ L s.heap ((x.ac, instObj 449 x.dc) :: (x.dc, dictOf c.ec c.nc) :: (x.ap, instObj 282 x.dP) :: (x.dP, dictOf c.eP c.nP) :: (awl, listOf ws.toArray nl) :: (CL x c ++ rest))) (cf : CF w wait x c n) (ph : PhF wait x c n (.home)) (hv : BAre ws (chals n)) (off : OffAll (CL x c) ((awl, listOf ws.toArray nl) :: rest)) (off2 : OffAll ((awl, listOf ws.toArray nl) :: CL x c) rest) (hz : ∀ y ∈ CL x c, y.1 ≠ awl) (hzz : @LT.lt Nat _ c.awc awl) 
    (hdp : dp + 14 < recursionLimit) (hun : un + 400 < cLine)
    (ret : ∀ (t2 : Tok) (io : Bool) (h1 : Heap) (tk1 : Nat), Fr h₀ L h1 (fun y => if y = "state" then some (.str (Str.ofString "home") ts) else if y = "is_over" then some (.bool io) else if y = "now" then some (.int (now + wait) t2) else kstB m [("state", .str (Str.ofString "home") ts), ("conn", .ref x.ac), ("form", .int 3 tr), ("data", .bytes b0 td), ("went", .ref awl), ("now", .int now tn), ("wait", .int wait tw)] y) → News h₀ L h1 ((awl, listOf ws.toArray nl) :: (CL x c ++ rest)) → Q .next { s with heap := h1, toks := tk1 }) :
    wpAny (model PySem.Challenge.rw_pf0276_01.row.toRowW.prog w) (ktrTop dp un gd "law" lawScope L a ccd [] outer) (exec (turnSt 5) (envX "law" lawScope L a ccd [])) Q E s := by
  generalize hS : lawScope = S
  conv at hS => lhs; whnf
  subst hS
  generalize hS : turnSt 5 = S
  conv at hS => lhs; whnf
  subst hS
  have zaC := cf.aC
  have zaP := cf.aP
  have zg := cf.paths
  have zm := cf.mot
  revert X; k_fill; intro X
  w_top off
  k_with_none
  (k_with "call ref" => (k_here; k_dflt (refine stopAt ?a ?_; (case a => exact rfl))))
  repeat' (first | (refine Stop.mk ?_; (with_reducible (first
    | (k_here; k_dflt (refine' op_time_home ?B ?F ?X ?T ?k (na5 ?N) (nb5 ?N) (off_apart ?O) ?h0 ?h1 ?d ?u ?_; (case B => k_asm); (case F => k_asm); (case X => k_asm); (case T => k_asm); (case k => exact rfl); (case N => k_asm); (case O => assumption); (case h0 => assumption); (case h1 => assumption); (case d => ktr_room); (case u => ktr_units)); intro q' h' tk' F' N' R'; ((have NN := nj N' R'); clear N' R'))))) | (k_unfold; (try dsimp only)) | (k_end; wrow_close) | walk1 | (dsimp only; walk1) | (leave1; walk_say "STEP leave1"; try dsimp only) | fail "no step")
  all_goals (refine' ret _ _ _ _ ?q0 ?q1; (case q1 => assumption); (case q0 => assumption))
set_option maxRecDepth 100000 in
set_option maxHeartbeats 1500000 in
theorem s5t_over {w : World} {p : Program} {loose : List Str} {mean : ExcName → Option Value} {mg mb : Str → Option Value} {dp un : Nat} {gd : Option (List Code)} {a : Addr} {ccd : Value} {outer : List Env} {A₀ : Around} {base h₀ : Heap} {L : Addr} {m : Str → Option Value} {s : Shared} {Q : Flow → Shared → Prop} {E : Value → Shared → Prop} {rest : List (Addr × Obj)} {x : Fx} {c : Ch} {n : Nat} {wait : Int} {ts td tr tn tw : Tok} {r now : Int} {awl : Addr} {nl : Nat} {ws : List Value} {b0 : Array UInt8} {b : Bool}
    (B : Below A₀ base outer h₀) (F : Fr h₀ L s.heap (kstB m [("state", .str (Str.ofString "tried") ts), ("conn", .ref x.ac), ("form", .int 3 tr), ("data", .bytes b0 td), ("went", .ref awl), ("now", .int now tn), ("wait", .int wait tw)])) (X : (hd.heap_1 w.params).In h₀) (T : Top p loose mean mg mb h₀)
    (N : News h₀ L s.heap ((x.ac, instObj 449 x.dc) :: (x.dc, dictOf c.ec c.nc) :: (x.ap, instObj 282 x.dP) :: (x.dP, dictOf c.eP c.nP) :: (awl, listOf ws.toArray nl) :: (CL x c ++ rest))) (cf : CF w wait x c n) (ph : PhF wait x c n (.tried b)) (hv : BAre ws (chals n)) (hle : 3 * wait ≤ now + wait) (off : OffAll (CL x c) ((awl, listOf ws.toArray nl) :: rest)) (off2 : OffAll ((awl, listOf ws.toArray nl) :: CL x c) rest) (hz : ∀ y ∈ CL x c, y.1 ≠ awl) (hzz : @LT.lt Nat _ c.awc awl) 
    (hdp : dp + 14 < recursionLimit) (hun : un + 400 < cLine)
    (ret : ∀ (c1 : Ch) (t1 t2 : Tok) (io : Bool) (h1 : Heap) (tk1 : Nat), (CF w wait x c1 n) → (PhF wait x c1 n .home) → (OffAll (CL x c1) ((awl, listOf ws.toArray nl) :: rest)) → Fr h₀ L h1 (fun y => if y = "state" then some (.str (Str.ofString "home") t1) else if y = "is_over" then some (.bool io) else if y = "now" then some (.int (now + wait) t2) else kstB m [("state", .str (Str.ofString "tried") ts), ("conn", .ref x.ac), ("form", .int 3 tr), ("data", .bytes b0 td), ("went", .ref awl), ("now", .int now tn), ("wait", .int wait tw)] y) → News h₀ L h1 ((awl, listOf ws.toArray nl) :: (CL x c1 ++ rest)) → Q .next { s with heap := h1, toks := tk1 }) :
    wpAny (model PySem.Challenge.rw_pf0276_01.row.toRowW.prog w) (ktrTop dp un gd "law" lawScope L a ccd [] outer) (exec (turnSt 5) (envX "law" lawScope L a ccd [])) Q E s := by
  generalize hS : lawScope = S
  conv at hS => lhs; whnf
  subst hS
  generalize hS : turnSt 5 = S
  conv at hS => lhs; whnf
  subst hS
  have zaC := cf.aC
  have zaP := cf.aP
  have zg := cf.paths
  have zm := cf.mot
  revert X; k_fill; intro X
  w_top off
  k_with_none
  (k_with "call ref" => (k_here; k_dflt (refine stopAt ?a ?_; (case a => exact rfl))))
  repeat' (first | (refine Stop.mk ?_; (with_reducible (first
    | (k_here; k_dflt (refine' op_time_over ?B ?F ?X ?T ?k (na5e ?N) (nb5e ?N) (off_apart ?O) ?h0 ?h1 ?h2 ?h3 ?h4 ?d ?u ?_; (case B => k_asm); (case F => k_asm); (case X => k_asm); (case T => k_asm); (case k => exact rfl); (case N => k_asm); (case O => assumption); (case h0 => assumption); (case h1 => assumption); (case h2 => assumption); (case h3 => assumption); (case h4 => assumption); (case d => ktr_room); (case u => ktr_units)); intro q' c1' h' tk' off' cf' ph' f1' F' N' R'; ((have NN := nj_e N' R'); (have O3 := off_r off' f1'); clear N' R'))))) | (k_unfold; (try dsimp only)) | (k_end; wrow_close) | walk1 | (dsimp only; walk1) | (leave1; walk_say "STEP leave1"; try dsimp only) | fail "no step")
  all_goals (refine' ret _ _ _ _ _ _ ?q0 ?q1 ?q2 ?q3 ?q4; (case q4 => assumption); (case q3 => assumption); (case q2 => assumption); (case q1 => assumption); (case q0 => assumption))
set_option maxRecDepth 100000 in
set_option maxHeartbeats 1500000 in
theorem s5t_proven {w : World} {p : Program} {loose : List Str} {mean : ExcName → Option Value} {mg mb : Str → Option Value} {dp un : Nat} {gd : Option (List Code)} {a : Addr} {ccd : Value} {outer : List Env} {A₀ : Around} {base h₀ : Heap} {L : Addr} {m : Str → Option Value} {s : Shared} {Q : Flow → Shared → Prop} {E : Value → Shared → Prop} {rest : List (Addr × Obj)} {x : Fx} {c : Ch} {n : Nat} {wait : Int} {ts td tr tn tw : Tok} {r now : Int} {awl : Addr} {nl : Nat} {ws : List Value} {b0 : Array UInt8} {b : Bool}
    (B : Below A₀ base outer h₀) (F : Fr h₀ L s.heap (kstB m [("state", .str (Str.ofString "proven") ts), ("conn", .ref x.ac), ("form", .int 3 tr), ("data", .bytes b0 td), ("went", .ref awl), ("now", .int now tn), ("wait", .int wait tw)])) (X : (hd.heap_1 w.params).In h₀) (T : Top p loose mean mg mb h₀)
    (N : News h₀ L s.heap ((x.ac, instObj 449 x.dc) :: (x.dc, dictOf c.ec c.nc) :: (x.ap, instObj 282 x.dP) :: (x.dP, dictOf c.eP c.nP) :: (awl, listOf ws.toArray nl) :: (CL x c ++ rest))) (cf : CF w wait x c n) (ph : PhF wait x c n (.proven)) (hv : BAre ws (chals n)) (off : OffAll (CL x c) ((awl, listOf ws.toArray nl) :: rest)) (off2 : OffAll ((awl, listOf ws.toArray nl) :: CL x c) rest) (hz : ∀ y ∈ CL x c, y.1 ≠ awl) (hzz : @LT.lt Nat _ c.awc awl) 
    (hdp : dp + 14 < recursionLimit) (hun : un + 400 < cLine)
    (ret : ∀ (t2 : Tok) (io : Bool) (h1 : Heap) (tk1 : Nat), Fr h₀ L h1 (fun y => if y = "state" then some (.str (Str.ofString "proven") ts) else if y = "is_over" then some (.bool io) else if y = "now" then some (.int (now + wait) t2) else kstB m [("state", .str (Str.ofString "proven") ts), ("conn", .ref x.ac), ("form", .int 3 tr), ("data", .bytes b0 td), ("went", .ref awl), ("now", .int now tn), ("wait", .int wait tw)] y) → News h₀ L h1 ((awl, listOf ws.toArray nl) :: (CL x c ++ rest)) → Q .next { s with heap := h1, toks := tk1 }) :
    wpAny (model PySem.Challenge.rw_pf0276_01.row.toRowW.prog w) (ktrTop dp un gd "law" lawScope L a ccd [] outer) (exec (turnSt 5) (envX "law" lawScope L a ccd [])) Q E s := by
  generalize hS : lawScope = S
  conv at hS => lhs; whnf
  subst hS
  generalize hS : turnSt 5 = S
  conv at hS => lhs; whnf
  subst hS
  have zaC := cf.aC
  have zaP := cf.aP
  have zg := cf.paths
  have zm := cf.mot
  revert X; k_fill; intro X
  w_top off
  k_with_none
  (k_with "call ref" => (k_here; k_dflt (refine stopAt ?a ?_; (case a => exact rfl))))
  repeat' (first | (refine Stop.mk ?_; (with_reducible (first
    | (k_here; k_dflt (refine' op_time_proven ?B ?F ?X ?T ?k (na5 ?N) (nb5 ?N) (off_apart ?O) ?h0 ?h1 ?d ?u ?_; (case B => k_asm); (case F => k_asm); (case X => k_asm); (case T => k_asm); (case k => exact rfl); (case N => k_asm); (case O => assumption); (case h0 => assumption); (case h1 => assumption); (case d => ktr_room); (case u => ktr_units)); intro q' h' tk' F' N' R'; ((have NN := nj N' R'); clear N' R'))))) | (k_unfold; (try dsimp only)) | (k_end; wrow_close) | walk1 | (dsimp only; walk1) | (leave1; walk_say "STEP leave1"; try dsimp only) | fail "no step")
  all_goals (refine' ret _ _ _ _ ?q0 ?q1; (case q1 => assumption); (case q0 => assumption))
set_option maxRecDepth 100000 in
set_option maxHeartbeats 1500000 in
theorem s5t_tried {w : World} {p : Program} {loose : List Str} {mean : ExcName → Option Value} {mg mb : Str → Option Value} {dp un : Nat} {gd : Option (List Code)} {a : Addr} {ccd : Value} {outer : List Env} {A₀ : Around} {base h₀ : Heap} {L : Addr} {m : Str → Option Value} {s : Shared} {Q : Flow → Shared → Prop} {E : Value → Shared → Prop} {rest : List (Addr × Obj)} {x : Fx} {c : Ch} {n : Nat} {wait : Int} {ts td tr tn tw : Tok} {r now : Int} {awl : Addr} {nl : Nat} {ws : List Value} {b0 : Array UInt8} {b : Bool}
    (B : Below A₀ base outer h₀) (F : Fr h₀ L s.heap (kstB m [("state", .str (Str.ofString "tried") ts), ("conn", .ref x.ac), ("form", .int 3 tr), ("data", .bytes b0 td), ("went", .ref awl), ("now", .int now tn), ("wait", .int wait tw)])) (X : (hd.heap_1 w.params).In h₀) (T : Top p loose mean mg mb h₀)
    (N : News h₀ L s.heap ((x.ac, instObj 449 x.dc) :: (x.dc, dictOf c.ec c.nc) :: (x.ap, instObj 282 x.dP) :: (x.dP, dictOf c.eP c.nP) :: (awl, listOf ws.toArray nl) :: (CL x c ++ rest))) (cf : CF w wait x c n) (ph : PhF wait x c n (.tried b)) (hv : BAre ws (chals n)) (hle : now + wait < 3 * wait) (off : OffAll (CL x c) ((awl, listOf ws.toArray nl) :: rest)) (off2 : OffAll ((awl, listOf ws.toArray nl) :: CL x c) rest) (hz : ∀ y ∈ CL x c, y.1 ≠ awl) (hzz : @LT.lt Nat _ c.awc awl) 
    (hdp : dp + 14 < recursionLimit) (hun : un + 400 < cLine)
    (ret : ∀ (t2 : Tok) (io : Bool) (h1 : Heap) (tk1 : Nat), Fr h₀ L h1 (fun y => if y = "state" then some (.str (Str.ofString "tried") ts) else if y = "is_over" then some (.bool io) else if y = "now" then some (.int (now + wait) t2) else kstB m [("state", .str (Str.ofString "tried") ts), ("conn", .ref x.ac), ("form", .int 3 tr), ("data", .bytes b0 td), ("went", .ref awl), ("now", .int now tn), ("wait", .int wait tw)] y) → News h₀ L h1 ((awl, listOf ws.toArray nl) :: (CL x c ++ rest)) → Q .next { s with heap := h1, toks := tk1 }) :
    wpAny (model PySem.Challenge.rw_pf0276_01.row.toRowW.prog w) (ktrTop dp un gd "law" lawScope L a ccd [] outer) (exec (turnSt 5) (envX "law" lawScope L a ccd [])) Q E s := by
  generalize hS : lawScope = S
  conv at hS => lhs; whnf
  subst hS
  generalize hS : turnSt 5 = S
  conv at hS => lhs; whnf
  subst hS
  have zaC := cf.aC
  have zaP := cf.aP
  have zg := cf.paths
  have zm := cf.mot
  revert X; k_fill; intro X
  w_top off
  k_with_none
  (k_with "call ref" => (k_here; k_dflt (refine stopAt ?a ?_; (case a => exact rfl))))
  repeat' (first | (refine Stop.mk ?_; (with_reducible (first
    | (k_here; k_dflt (refine' op_time_tried ?B ?F ?X ?T ?k (na5 ?N) (nb5 ?N) (off_apart ?O) ?h0 ?h1 ?h2 ?d ?u ?_; (case B => k_asm); (case F => k_asm); (case X => k_asm); (case T => k_asm); (case k => exact rfl); (case N => k_asm); (case O => assumption); (case h0 => assumption); (case h1 => assumption); (case h2 => assumption); (case d => ktr_room); (case u => ktr_units)); intro q' h' tk' F' N' R'; ((have NN := nj N' R'); clear N' R'))))) | (k_unfold; (try dsimp only)) | (k_end; wrow_close) | walk1 | (dsimp only; walk1) | (leave1; walk_say "STEP leave1"; try dsimp only) | fail "no step")
  all_goals (refine' ret _ _ _ _ ?q0 ?q1; (case q1 => assumption); (case q0 => assumption))
set_option maxRecDepth 100000 in
set_option maxHeartbeats 1500000 in
theorem s5r_hit {w : World} {p : Program} {loose : List Str} {mean : ExcName → Option Value} {mg mb : Str → Option Value} {dp un : Nat} {gd : Option (List Code)} {a : Addr} {ccd : Value} {outer : List Env} {A₀ : Around} {base h₀ : Heap} {L : Addr} {m : Str → Option Value} {s : Shared} {Q : Flow → Shared → Prop} {E : Value → Shared → Prop} {rest : List (Addr × Obj)} {x : Fx} {c : Ch} {n : Nat} {wait : Int} {ts td tr tn tw : Tok} {r now : Int} {awl : Addr} {nl : Nat} {ws : List Value} {b0 : Array UInt8} {b : Bool}
    (B : Below A₀ base outer h₀) (F : Fr h₀ L s.heap (kstB m [("state", .str (Str.ofString "tried") ts), ("conn", .ref x.ac), ("form", .int 2 tr), ("data", .bytes b0 td), ("went", .ref awl), ("now", .int now tn), ("wait", .int wait tw)])) (X : (hd.heap_1 w.params).In h₀) (T : Top p loose mean mg mb h₀)
    (N : News h₀ L s.heap ((x.ac, instObj 449 x.dc) :: (x.dc, dictOf c.ec c.nc) :: (x.ap, instObj 282 x.dP) :: (x.dP, dictOf c.eP c.nP) :: (awl, listOf ws.toArray nl) :: (CL x c ++ rest))) (cf : CF w wait x c n) (ph : PhF wait x c n (.tried b)) (hv : BAre ws (chals n)) (hb : b0 ∈ chals n) (off : OffAll (CL x c) ((awl, listOf ws.toArray nl) :: rest)) (off2 : OffAll ((awl, listOf ws.toArray nl) :: CL x c) rest) (hz : ∀ y ∈ CL x c, y.1 ≠ awl) (hzz : @LT.lt Nat _ c.awc awl) 
    (hdp : dp + 14 < recursionLimit) (hun : un + 400 < cLine)
    (ret : ∀ (c1 : Ch) (t1 : Tok) (h1 : Heap) (tk1 : Nat), (CF w wait x c1 n) → (PhF wait x c1 n .proven) → (OffAll (CL x c1) ((awl, listOf ws.toArray nl) :: rest)) → Fr h₀ L h1 (fun y => if y = "state" then some (.str (Str.ofString "proven") t1) else if y = "told" then some (.ref x.aw) else kstB m [("state", .str (Str.ofString "tried") ts), ("conn", .ref x.ac), ("form", .int 2 tr), ("data", .bytes b0 td), ("went", .ref awl), ("now", .int now tn), ("wait", .int wait tw)] y) → News h₀ L h1 ((awl, listOf ws.toArray nl) :: (CL x c1 ++ rest)) → Q .next { s with heap := h1, toks := tk1 }) :
    wpAny (model PySem.Challenge.rw_pf0276_01.row.toRowW.prog w) (ktrTop dp un gd "law" lawScope L a ccd [] outer) (exec (turnSt 5) (envX "law" lawScope L a ccd [])) Q E s := by
  generalize hS : lawScope = S
  conv at hS => lhs; whnf
  subst hS
  generalize hS : turnSt 5 = S
  conv at hS => lhs; whnf
  subst hS
  have zaC := cf.aC
  have zaP := cf.aP
  have zg := cf.paths
  have zm := cf.mtr
  have hb2 := hb
  rw [← ph.2.2.2.2.2.2] at hb2
  revert X; k_fill; intro X
  w_top off
  k_with_none
  (k_with "compareOp In" => (k_here; (with_reducible show wpAny _ _ (compareOp CmpOp.In (Value.bytes _ _) (Value.ref _)) _ _ _); k_dflt (first
      | (refine' in_miss ?N ?m ?v ?b ?_; (case N => k_asm); (case m => k_mem); (case v => first | assumption | exact BAre.nil); (case b => first | assumption | exact List.not_mem_nil); k_whole)
      | (refine' in_hit ?N ?m ?v ?b ?_; (case N => k_asm); (case m => k_mem); (case v | b => assumption); k_whole))))
  (k_with "call ref" => (k_here; k_dflt (refine stopAt ?a ?_; (case a => exact rfl))))
  repeat' (first | (refine Stop.mk ?_; (with_reducible (first
    | (k_here; k_dflt (refine' op_resp_hit ?B ?F ?X ?T ?k (na5e ?N) (nb5e ?N) (off_apart ?O) ?h0 ?h1 ?h2 ?h3 ?h4 ?d ?u ?_; (case B => k_asm); (case F => k_asm); (case X => k_asm); (case T => k_asm); (case k => exact rfl); (case N => k_asm); (case O => assumption); (case h0 => assumption); (case h1 => assumption); (case h2 => assumption); (case h3 => assumption); (case h4 => assumption); (case d => ktr_room); (case u => ktr_units)); intro c1' h' tk' off' cf' ph' f1' F' N' R'; ((have NN := nj_e N' R'); (have O3 := off_r off' f1'); clear N' R'))))) | (k_unfold; (try dsimp only)) | (k_end; wrow_close) | walk1 | (dsimp only; walk1) | (leave1; walk_say "STEP leave1"; try dsimp only) | fail "no step")
  all_goals (refine' ret _ _ _ _ ?q0 ?q1 ?q2 ?q3 ?q4; (case q4 => assumption); (case q3 => assumption); (case q2 => assumption); (case q1 => assumption); (case q0 => assumption))
set_option maxRecDepth 100000 in
set_option maxHeartbeats 1500000 in
theorem s5r_miss {w : World} {p : Program} {loose : List Str} {mean : ExcName → Option Value} {mg mb : Str → Option Value} {dp un : Nat} {gd : Option (List Code)} {a : Addr} {ccd : Value} {outer : List Env} {A₀ : Around} {base h₀ : Heap} {L : Addr} {m : Str → Option Value} {s : Shared} {Q : Flow → Shared → Prop} {E : Value → Shared → Prop} {rest : List (Addr × Obj)} {x : Fx} {c : Ch} {n : Nat} {wait : Int} {ts td tr tn tw : Tok} {r now : Int} {awl : Addr} {nl : Nat} {ws : List Value} {b0 : Array UInt8} {b : Bool}
    (B : Below A₀ base outer h₀) (F : Fr h₀ L s.heap (kstB m [("state", .str (Str.ofString "tried") ts), ("conn", .ref x.ac), ("form", .int 2 tr), ("data", .bytes b0 td), ("went", .ref awl), ("now", .int now tn), ("wait", .int wait tw)])) (X : (hd.heap_1 w.params).In h₀) (T : Top p loose mean mg mb h₀)
    (N : News h₀ L s.heap ((x.ac, instObj 449 x.dc) :: (x.dc, dictOf c.ec c.nc) :: (x.ap, instObj 282 x.dP) :: (x.dP, dictOf c.eP c.nP) :: (awl, listOf ws.toArray nl) :: (CL x c ++ rest))) (cf : CF w wait x c n) (ph : PhF wait x c n (.tried b)) (hv : BAre ws (chals n)) (hb : b0 ∉ chals n) (off : OffAll (CL x c) ((awl, listOf ws.toArray nl) :: rest)) (off2 : OffAll ((awl, listOf ws.toArray nl) :: CL x c) rest) (hz : ∀ y ∈ CL x c, y.1 ≠ awl) (hzz : @LT.lt Nat _ c.awc awl) 
    (hdp : dp + 14 < recursionLimit) (hun : un + 400 < cLine)
    (ret : ∀  (h1 : Heap) (tk1 : Nat), Fr h₀ L h1 (fun y => if y = "state" then some (.str (Str.ofString "tried") ts) else if y = "told" then some .none else kstB m [("state", .str (Str.ofString "tried") ts), ("conn", .ref x.ac), ("form", .int 2 tr), ("data", .bytes b0 td), ("went", .ref awl), ("now", .int now tn), ("wait", .int wait tw)] y) → News h₀ L h1 ((awl, listOf ws.toArray nl) :: (CL x c ++ rest)) → Q .next { s with heap := h1, toks := tk1 }) :
    wpAny (model PySem.Challenge.rw_pf0276_01.row.toRowW.prog w) (ktrTop dp un gd "law" lawScope L a ccd [] outer) (exec (turnSt 5) (envX "law" lawScope L a ccd [])) Q E s := by
  generalize hS : lawScope = S
  conv at hS => lhs; whnf
  subst hS
  generalize hS : turnSt 5 = S
  conv at hS => lhs; whnf
  subst hS
  have zaC := cf.aC
  have zaP := cf.aP
  have zg := cf.paths
  have zm := cf.mtr
  have hb2 := hb
  rw [← ph.2.2.2.2.2.2] at hb2
  revert X; k_fill; intro X
  w_top off
  k_with_none
  (k_with "compareOp In" => (k_here; (with_reducible show wpAny _ _ (compareOp CmpOp.In (Value.bytes _ _) (Value.ref _)) _ _ _); k_dflt (first
      | (refine' in_miss ?N ?m ?v ?b ?_; (case N => k_asm); (case m => k_mem); (case v => first | assumption | exact BAre.nil); (case b => first | assumption | exact List.not_mem_nil); k_whole)
      | (refine' in_hit ?N ?m ?v ?b ?_; (case N => k_asm); (case m => k_mem); (case v | b => assumption); k_whole))))
  (k_with "call ref" => (k_here; k_dflt (refine stopAt ?a ?_; (case a => exact rfl))))
  repeat' (first | (refine Stop.mk ?_; (with_reducible (first
    | (k_here; k_dflt (refine' op_resp_miss ?B ?F ?X ?T ?k (na5 ?N) (nb5 ?N) (off_apart ?O) ?h0 ?h1 ?d ?u ?_; (case B => k_asm); (case F => k_asm); (case X => k_asm); (case T => k_asm); (case k => exact rfl); (case N => k_asm); (case O => assumption); (case h0 => assumption); (case h1 => assumption); (case d => ktr_room); (case u => ktr_units)); intro h' tk' F' N' R'; ((have NN := nj N' R'); clear N' R'))))) | (k_unfold; (try dsimp only)) | (k_end; wrow_close) | walk1 | (dsimp only; walk1) | (leave1; walk_say "STEP leave1"; try dsimp only) | fail "no step")
  all_goals (refine' ret _ _ ?q0 ?q1; (case q1 => assumption); (case q0 => assumption))
set_option maxRecDepth 100000 in
set_option maxHeartbeats 1500000 in
theorem s5r_proven {w : World} {p : Program} {loose : List Str} {mean : ExcName → Option Value} {mg mb : Str → Option Value} {dp un : Nat} {gd : Option (List Code)} {a : Addr} {ccd : Value} {outer : List Env} {A₀ : Around} {base h₀ : Heap} {L : Addr} {m : Str → Option Value} {s : Shared} {Q : Flow → Shared → Prop} {E : Value → Shared → Prop} {rest : List (Addr × Obj)} {x : Fx} {c : Ch} {n : Nat} {wait : Int} {ts td tr tn tw : Tok} {r now : Int} {awl : Addr} {nl : Nat} {ws : List Value} {b0 : Array UInt8} {b : Bool}
    (B : Below A₀ base outer h₀) (F : Fr h₀ L s.heap (kstB m [("state", .str (Str.ofString "proven") ts), ("conn", .ref x.ac), ("form", .int 2 tr), ("data", .bytes b0 td), ("went", .ref awl), ("now", .int now tn), ("wait", .int wait tw)])) (X : (hd.heap_1 w.params).In h₀) (T : Top p loose mean mg mb h₀)
    (N : News h₀ L s.heap ((x.ac, instObj 449 x.dc) :: (x.dc, dictOf c.ec c.nc) :: (x.ap, instObj 282 x.dP) :: (x.dP, dictOf c.eP c.nP) :: (awl, listOf ws.toArray nl) :: (CL x c ++ rest))) (cf : CF w wait x c n) (ph : PhF wait x c n (.proven)) (hv : BAre ws (chals n)) (off : OffAll (CL x c) ((awl, listOf ws.toArray nl) :: rest)) (off2 : OffAll ((awl, listOf ws.toArray nl) :: CL x c) rest) (hz : ∀ y ∈ CL x c, y.1 ≠ awl) (hzz : @LT.lt Nat _ c.awc awl) 
    (hdp : dp + 14 < recursionLimit) (hun : un + 400 < cLine)
    (ret : ∀  (h1 : Heap) (tk1 : Nat), Fr h₀ L h1 (fun y => if y = "state" then some (.str (Str.ofString "proven") ts) else if y = "told" then some .none else kstB m [("state", .str (Str.ofString "proven") ts), ("conn", .ref x.ac), ("form", .int 2 tr), ("data", .bytes b0 td), ("went", .ref awl), ("now", .int now tn), ("wait", .int wait tw)] y) → News h₀ L h1 ((awl, listOf ws.toArray nl) :: (CL x c ++ rest)) → Q .next { s with heap := h1, toks := tk1 }) :
    wpAny (model PySem.Challenge.rw_pf0276_01.row.toRowW.prog w) (ktrTop dp un gd "law" lawScope L a ccd [] outer) (exec (turnSt 5) (envX "law" lawScope L a ccd [])) Q E s := by
  generalize hS : lawScope = S
  conv at hS => lhs; whnf
  subst hS
  generalize hS : turnSt 5 = S
  conv at hS => lhs; whnf
  subst hS
  have zaC := cf.aC
  have zaP := cf.aP
  have zg := cf.paths
  have zm := cf.mtr
  have hb2 : b0 ∉ c.bs := by rw [ph.2.2.2]; exact List.not_mem_nil
  revert X; k_fill; intro X
  w_top off
  k_with_none
  (k_with "compareOp In" => (k_here; (with_reducible show wpAny _ _ (compareOp CmpOp.In (Value.bytes _ _) (Value.ref _)) _ _ _); k_dflt (first
      | (refine' in_miss ?N ?m ?v ?b ?_; (case N => k_asm); (case m => k_mem); (case v => first | assumption | exact BAre.nil); (case b => first | assumption | exact List.not_mem_nil); k_whole)
      | (refine' in_hit ?N ?m ?v ?b ?_; (case N => k_asm); (case m => k_mem); (case v | b => assumption); k_whole))))
  (k_with "call ref" => (k_here; k_dflt (refine stopAt ?a ?_; (case a => exact rfl))))
  repeat' (first | (refine Stop.mk ?_; (with_reducible (first
    | (k_here; k_dflt (refine' op_resp_miss ?B ?F ?X ?T ?k (na5 ?N) (nb5 ?N) (off_apart ?O) ?h0 ?h1 ?d ?u ?_; (case B => k_asm); (case F => k_asm); (case X => k_asm); (case T => k_asm); (case k => exact rfl); (case N => k_asm); (case O => assumption); (case h0 => assumption); (case h1 => assumption); (case d => ktr_room); (case u => ktr_units)); intro h' tk' F' N' R'; ((have NN := nj N' R'); clear N' R'))))) | (k_unfold; (try dsimp only)) | (k_end; wrow_close) | walk1 | (dsimp only; walk1) | (leave1; walk_say "STEP leave1"; try dsimp only) | fail "no step")
  all_goals (refine' ret _ _ ?q0 ?q1; (case q1 => assumption); (case q0 => assumption))
set_option maxRecDepth 100000 in
set_option maxHeartbeats 1500000 in
theorem s5r_home {w : World} {p : Program} {loose : List Str} {mean : ExcName → Option Value} {mg mb : Str → Option Value} {dp un : Nat} {gd : Option (List Code)} {a : Addr} {ccd : Value} {outer : List Env} {A₀ : Around} {base h₀ : Heap} {L : Addr} {m : Str → Option Value} {s : Shared} {Q : Flow → Shared → Prop} {E : Value → Shared → Prop} {rest : List (Addr × Obj)} {x : Fx} {c : Ch} {n : Nat} {wait : Int} {ts td tr tn tw : Tok} {r now : Int} {awl : Addr} {nl : Nat} {ws : List Value} {b0 : Array UInt8} {b : Bool}
    (B : Below A₀ base outer h₀) (F : Fr h₀ L s.heap (kstB m [("state", .str (Str.ofString "home") ts), ("conn", .ref x.ac), ("form", .int 2 tr), ("data", .bytes b0 td), ("went", .ref awl), ("now", .int now tn), ("wait", .int wait tw)])) (X : (hd.heap_1 w.params).In h₀) (T : Top p loose mean mg mb h₀)
    (N : News h₀ L s.heap ((x.ac, instObj 449 x.dc) :: (x.dc, dictOf c.ec c.nc) :: (x.ap, instObj 282 x.dP) :: (x.dP, dictOf c.eP c.nP) :: (awl, listOf ws.toArray nl) :: (CL x c ++ rest))) (cf : CF w wait x c n) (ph : PhF wait x c n (.home)) (hv : BAre ws (chals n)) (off : OffAll (CL x c) ((awl, listOf ws.toArray nl) :: rest)) (off2 : OffAll ((awl, listOf ws.toArray nl) :: CL x c) rest) (hz : ∀ y ∈ CL x c, y.1 ≠ awl) (hzz : @LT.lt Nat _ c.awc awl) 
    (hdp : dp + 14 < recursionLimit) (hun : un + 400 < cLine)
    (ret : ∀  (h1 : Heap) (tk1 : Nat), Fr h₀ L h1 (fun y => if y = "state" then some (.str (Str.ofString "home") ts) else if y = "told" then some .none else kstB m [("state", .str (Str.ofString "home") ts), ("conn", .ref x.ac), ("form", .int 2 tr), ("data", .bytes b0 td), ("went", .ref awl), ("now", .int now tn), ("wait", .int wait tw)] y) → News h₀ L h1 ((awl, listOf ws.toArray nl) :: (CL x c ++ rest)) → Q .next { s with heap := h1, toks := tk1 }) :
    wpAny (model PySem.Challenge.rw_pf0276_01.row.toRowW.prog w) (ktrTop dp un gd "law" lawScope L a ccd [] outer) (exec (turnSt 5) (envX "law" lawScope L a ccd [])) Q E s := by
  generalize hS : lawScope = S
  conv at hS => lhs; whnf
  subst hS
  generalize hS : turnSt 5 = S
  conv at hS => lhs; whnf
  subst hS
  have zaC := cf.aC
  have zaP := cf.aP
  have zg := cf.paths
  have zm := cf.mtr
  have hb2 : b0 ∉ c.bs := by rw [ph.2.2.2]; exact List.not_mem_nil
  revert X; k_fill; intro X
  w_top off
  k_with_none
  (k_with "compareOp In" => (k_here; (with_reducible show wpAny _ _ (compareOp CmpOp.In (Value.bytes _ _) (Value.ref _)) _ _ _); k_dflt (first
      | (refine' in_miss ?N ?m ?v ?b ?_; (case N => k_asm); (case m => k_mem); (case v => first | assumption | exact BAre.nil); (case b => first | assumption | exact List.not_mem_nil); k_whole)
      | (refine' in_hit ?N ?m ?v ?b ?_; (case N => k_asm); (case m => k_mem); (case v | b => assumption); k_whole))))
  (k_with "call ref" => (k_here; k_dflt (refine stopAt ?a ?_; (case a => exact rfl))))
  repeat' (first | (refine Stop.mk ?_; (with_reducible (first
    | (k_here; k_dflt (refine' op_resp_miss ?B ?F ?X ?T ?k (na5 ?N) (nb5 ?N) (off_apart ?O) ?h0 ?h1 ?d ?u ?_; (case B => k_asm); (case F => k_asm); (case X => k_asm); (case T => k_asm); (case k => exact rfl); (case N => k_asm); (case O => assumption); (case h0 => assumption); (case h1 => assumption); (case d => ktr_room); (case u => ktr_units)); intro h' tk' F' N' R'; ((have NN := nj N' R'); clear N' R'))))) | (k_unfold; (try dsimp only)) | (k_end; wrow_close) | walk1 | (dsimp only; walk1) | (leave1; walk_say "STEP leave1"; try dsimp only) | fail "no step")
  all_goals (refine' ret _ _ ?q0 ?q1; (case q1 => assumption); (case q0 => assumption))
end
set_option maxHeartbeats 1000000 in
theorem stE {w : World} {p : Program} {loose : List Str} {mean : ExcName → Option Value} {mg mb : Str → Option Value} {dp un : Nat} {gd : Option (List Code)} {a : Addr} {ccd : Value} {outer : List Env} {A₀ : Around} {base h₀ : Heap} {L : Addr} {m : Str → Option Value} {s : Shared} {Q : Flow → Shared → Prop} {E : Value → Shared → Prop} {wait : Int} {x : Fx} {ab al I : Addr} {na : Nat} {xs : List Value} {oi : Obj} {i : Nat} {c : Ch} {n : Nat} {ph : Ph} {now : Int} {wb : Bool} {awl : Addr} {kb : Int} {ws : List Value} {tkb : Tok} {nb nl : Nat}
    (B : Below A₀ base outer h₀) (X : (hd.heap_1 w.params).In h₀) (T : Top p loose mean mg mb h₀) (hdp : dp + 14 < recursionLimit) (hun : un + 400 < cLine) (F : Fr h₀ L s.heap m) (N : News h₀ L s.heap ((I, oi) :: tled x ab al na xs c awl kb tkb nb nl ws)) (hI : ∀ p ∈ tled x ab al na xs c awl kb tkb nb nl ws, p.1 ≠ I) (ti : TI w wait x ab al i c n ph now wb awl kb ws) (lm : LM x wait ab awl now wb (stN ph) m) (hnf : ph ≠ .fresh) (R : RT w wait x ab al na xs h₀ L I oi i s Q) :
    wpAny (model PySem.Challenge.rw_pf0276_01.row.toRowW.prog w) (ktrTop dp un gd "law" lawScope L a ccd [] outer) (execs [turnSt 6, turnSt 7] (envX "law" lawScope L a ccd [])) Q E s := by
  cases ph with
  | fresh => exact absurd rfl hnf
  | tried b =>
    obtain ⟨⟨ts1, p1⟩, _, _, _, p5, _, _⟩ := ti.pf
    obtain ⟨q, hst⟩ := lm.state
    have hp : ∀ p ∈ ([("state", .str (Str.ofString "tried") q), ("conn", .ref x.ac)] : List (Str × Value)), m p.1 = some p.2 := hpc hst (hpc lm.conn hp0)
    obtain ⟨tz, hz⟩ := ti.cf.waddress
    obtain ⟨tS, hS⟩ := ti.cf.hstate
    refine wpAny_execs_cons (s6_tried (tw := q) B (fr_ps hp F) X T (nc N (.tail _ (.tail _ (.tail _ (.tail _ cl_ac)))) (nc N (.tail _ (.tail _ (.tail _ (.tail _ cl_dc)))) (nc N (.tail _ (.tail _ (.tail _ (.tail _ cl_ap)))) (nc N (.tail _ (.tail _ (.tail _ (.tail _ cl_dP)))) (nc N (.tail _ (.tail _ (.tail _ (.tail _ cl_aw)))) (nc N (.tail _ (.tail _ (.tail _ (.tail _ cl_dw)))) N)))))) ti.cf.aC ti.cf.aP ti.cf.aW ti.cf.paths p5 hz hdp hun fun h1 tk1 F1 N1 => ?_)
    rw [kstB_self hp] at F1
    refine wpAny_execs_cons (s7_tried (tw := q) B (fr_ps hp F1) X T (nc N1 (.tail _ (.tail _ (.tail _ (.tail _ cl_ac)))) (nc N1 (.tail _ (.tail _ (.tail _ (.tail _ cl_dc)))) (nc N1 (.tail _ (.tail _ (.tail _ (.tail _ cl_ap)))) (nc N1 (.tail _ (.tail _ (.tail _ (.tail _ cl_dP)))) (nc N1 (.tail _ (.tail _ (.tail _ (.tail _ cl_aw)))) (nc N1 (.tail _ (.tail _ (.tail _ (.tail _ cl_dw)))) N1)))))) ti.cf.aC ti.cf.aP ti.cf.aW ti.cf.paths p5 p1 ti.cf.wis hdp hun fun h2 tk2 F2 N2 => ?_)
    rw [kstB_self hp] at F2
    exact wpAny_execs_nil (R c n _ now wb awl kb ws tkb nb nl m h2 tk2 hnf ti lm F2 N2 hI)
  | proven =>
    obtain ⟨⟨ts1, p1⟩, _, p5, _⟩ := ti.pf
    obtain ⟨q, hst⟩ := lm.state
    have hp : ∀ p ∈ ([("state", .str (Str.ofString "proven") q), ("conn", .ref x.ac)] : List (Str × Value)), m p.1 = some p.2 := hpc hst (hpc lm.conn hp0)
    obtain ⟨tz, hz⟩ := ti.cf.waddress
    obtain ⟨tS, hS⟩ := ti.cf.hstate
    refine wpAny_execs_cons (s6_proven (tw := q) B (fr_ps hp F) X T (nc N (.tail _ (.tail _ (.tail _ (.tail _ cl_ac)))) (nc N (.tail _ (.tail _ (.tail _ (.tail _ cl_dc)))) (nc N (.tail _ (.tail _ (.tail _ (.tail _ cl_ap)))) (nc N (.tail _ (.tail _ (.tail _ (.tail _ cl_dP)))) (nc N (.tail _ (.tail _ (.tail _ (.tail _ cl_aw)))) (nc N (.tail _ (.tail _ (.tail _ (.tail _ cl_dw)))) N)))))) ti.cf.aC ti.cf.aP ti.cf.aW ti.cf.paths p5 hz hdp hun fun h1 tk1 F1 N1 => ?_)
    rw [kstB_self hp] at F1
    refine wpAny_execs_cons (s7_proven (tw := q) B (fr_ps hp F1) X T (nc N1 (.tail _ (.tail _ (.tail _ (.tail _ cl_ac)))) (nc N1 (.tail _ (.tail _ (.tail _ (.tail _ cl_dc)))) (nc N1 (.tail _ (.tail _ (.tail _ (.tail _ cl_ap)))) (nc N1 (.tail _ (.tail _ (.tail _ (.tail _ cl_dP)))) (nc N1 (.tail _ (.tail _ (.tail _ (.tail _ cl_aw)))) (nc N1 (.tail _ (.tail _ (.tail _ (.tail _ cl_dw)))) N1)))))) ti.cf.aC ti.cf.aP ti.cf.aW ti.cf.paths p5 p1 ti.cf.wis hdp hun fun h2 tk2 F2 N2 => ?_)
    rw [kstB_self hp] at F2
    exact wpAny_execs_nil (R c n _ now wb awl kb ws tkb nb nl m h2 tk2 hnf ti lm F2 N2 hI)
  | home =>
    obtain ⟨⟨ts1, p1⟩, _, p5, _⟩ := ti.pf
    obtain ⟨q, hst⟩ := lm.state
    have hp : ∀ p ∈ ([("state", .str (Str.ofString "home") q), ("conn", .ref x.ac)] : List (Str × Value)), m p.1 = some p.2 := hpc hst (hpc lm.conn hp0)
    obtain ⟨tz, hz⟩ := ti.cf.haddress
    obtain ⟨tS, hS⟩ := ti.cf.hstate
    refine wpAny_execs_cons (s6_home (tw := q) B (fr_ps hp F) X T (nc N (.tail _ (.tail _ (.tail _ (.tail _ cl_ac)))) (nc N (.tail _ (.tail _ (.tail _ (.tail _ cl_dc)))) (nc N (.tail _ (.tail _ (.tail _ (.tail _ cl_ap)))) (nc N (.tail _ (.tail _ (.tail _ (.tail _ cl_dP)))) (nc N (.tail _ (.tail _ (.tail _ (.tail _ cl_ah)))) (nc N (.tail _ (.tail _ (.tail _ (.tail _ cl_dh)))) N)))))) ti.cf.aC ti.cf.aP ti.cf.aH ti.cf.paths p5 hz hdp hun fun h1 tk1 F1 N1 => ?_)
    rw [kstB_self hp] at F1
    refine wpAny_execs_cons (s7_home (tw := q) B (fr_ps hp F1) X T (nc N1 (.tail _ (.tail _ (.tail _ (.tail _ cl_ac)))) (nc N1 (.tail _ (.tail _ (.tail _ (.tail _ cl_dc)))) (nc N1 (.tail _ (.tail _ (.tail _ (.tail _ cl_ap)))) (nc N1 (.tail _ (.tail _ (.tail _ (.tail _ cl_dP)))) (nc N1 (.tail _ (.tail _ (.tail _ (.tail _ cl_ah)))) (nc N1 (.tail _ (.tail _ (.tail _ (.tail _ cl_dh)))) N1)))))) ti.cf.aC ti.cf.aP ti.cf.aH ti.cf.paths p5 hS ti.cf.his hdp hun fun h2 tk2 F2 N2 => ?_)
    rw [kstB_self hp] at F2
    exact wpAny_execs_nil (R c n _ now wb awl kb ws tkb nb nl m h2 tk2 hnf ti lm F2 N2 hI)
set_option maxHeartbeats 4000000 in
theorem stD {w : World} {p : Program} {loose : List Str} {mean : ExcName → Option Value} {mg mb : Str → Option Value} {dp un : Nat} {gd : Option (List Code)} {a : Addr} {ccd : Value} {outer : List Env} {A₀ : Around} {base h₀ : Heap} {L : Addr} {m : Str → Option Value} {s : Shared} {Q : Flow → Shared → Prop} {E : Value → Shared → Prop} {wait : Int} {x : Fx} {ab al I : Addr} {na : Nat} {xs : List Value} {oi : Obj} {i : Nat} {c : Ch} {n : Nat} {ph : Ph} {now : Int} {wb : Bool} {awl : Addr} {kb : Int} {ws : List Value} {tkb : Tok} {nb nl : Nat} {r : Int} {tr td : Tok} {b0 : Array UInt8}
    (B : Below A₀ base outer h₀) (X : (hd.heap_1 w.params).In h₀) (T : Top p loose mean mg mb h₀) (hdp : dp + 14 < recursionLimit) (hun : un + 400 < cLine) (F : Fr h₀ L s.heap m) (N : News h₀ L s.heap ((I, oi) :: tled x ab al na xs c awl kb tkb nb nl ws)) (hI : ∀ p ∈ tled x ab al na xs c awl kb tkb nb nl ws, p.1 ≠ I) (ti : TI w wait x ab al i c n ph now wb awl kb ws) (lm : LM x wait ab awl now wb (stN ph) m) (hnf : ph ≠ .fresh) (hwb : wb = false) (haw : @LT.lt Nat _ c.awc awl)
    (hform : m "form" = some (.int r tr)) (hdata : m "data" = some (.bytes b0 td)) (hr0 : 0 ≤ r) (hr4 : r < 4) (R : RT w wait x ab al na xs h₀ L I oi i s Q) :
    wpAny (model PySem.Challenge.rw_pf0276_01.row.toRowW.prog w) (ktrTop dp un gd "law" lawScope L a ccd [] outer) (execs [turnSt 5, turnSt 6, turnSt 7] (envX "law" lawScope L a ccd [])) Q E s := by
  have N5 := n5_of N
  have N9 := n9_of N5
  have off := off5 (oi := oi) (o1 := listOf #[.ref al, .int kb tkb] nb) (o2 := listOf xs.toArray na) (o3 := listOf ws.toArray nl) ti.off (hI_cl hI)
  have off2 := off5_2 off (hI_awl hI) ti.d2 ti.d3
  have hz := off.rhd
  obtain ⟨qs, hst⟩ := lm.state
  obtain ⟨qn, hnow⟩ := lm.now
  obtain ⟨qw, hwait⟩ := lm.wait
  cases ph with
  | fresh => exact absurd rfl hnf
  | tried b =>
    by_cases h2 : r < 2
    · have hp : ∀ p ∈ ([("state", .str (Str.ofString "tried") qs), ("conn", .ref x.ac), ("form", .int r tr), ("data", .bytes b0 td), ("went", .ref awl), ("now", .int now qn), ("wait", .int wait qw)] : List (Str × Value)), m p.1 = some p.2 := hpc hst (hpc lm.conn (hpc hform (hpc hdata (hpc lm.went (hpc hnow (hpc hwait hp0))))))
      by_cases hb : b0 ∈ chals n
      · refine wpAny_execs_cons (s5l_hit B (fr_ps hp F) X T N5 ti.cf ti.pf ti.hv hb off h2 hdp hun fun c1 h1 tk1 cf1 pf1 o1 F1 N1 => ?_)
        rw [kstB_self hp] at F1
        exact stE (ph := .tried true) B X T hdp hun F1 (n5_to N1) (hI_mk (hI_ab hI) (hI_al hI) (hI_awl hI) (off5_i o1)) { cf := cf1, pf := pf1, hv := ti.hv, hn := ti.hn, kb0 := ti.kb0, kb1 := ti.kb1, wbh := rfl, off := off5_a o1, d1 := ti.d1, d2 := ti.d2, d3 := ti.d3 } (lm_isw lm true) (fun e => nomatch e) R
      · refine wpAny_execs_cons (s5l_miss B (fr_ps hp F) X T N5 ti.cf ti.pf ti.hv hb off h2 hdp hun fun h1 tk1 F1 N1 => ?_)
        rw [kstB_self hp] at F1
        exact stE B X T hdp hun F1 (n5_to N1) (hI_mk (hI_ab hI) (hI_al hI) (hI_awl hI) (hI_cl hI)) { ti with wbh := (show (false : Bool) = b from hwb ▸ ti.wbh) } (lm_isw lm false) hnf R
    · by_cases h3 : r = 2
      · subst h3
        have hp : ∀ p ∈ ([("state", .str (Str.ofString "tried") qs), ("conn", .ref x.ac), ("form", .int 2 tr), ("data", .bytes b0 td), ("went", .ref awl), ("now", .int now qn), ("wait", .int wait qw)] : List (Str × Value)), m p.1 = some p.2 := hpc hst (hpc lm.conn (hpc hform (hpc hdata (hpc lm.went (hpc hnow (hpc hwait hp0))))))
        by_cases hb : b0 ∈ chals n
        · refine wpAny_execs_cons (s5r_hit (r := 0) B (fr_ps hp F) X T N9 ti.cf ti.pf ti.hv hb off off2 hz haw hdp hun fun c1 t1 h1 tk1 cf1 pf1 o1 F1 N1 => ?_)
          rw [kstB_self hp] at F1
          exact stE (ph := .proven) B X T hdp hun F1 (n5_to N1) (hI_mk (hI_ab hI) (hI_al hI) (hI_awl hI) (off5_i o1)) { cf := cf1, pf := pf1, hv := ti.hv, hn := ti.hn, kb0 := ti.kb0, kb1 := ti.kb1, wbh := hwb, off := off5_a o1, d1 := ti.d1, d2 := ti.d2, d3 := ti.d3 } (lm_state (lm_set (k := "told") lm (by decide)) "proven" t1) (fun e => nomatch e) R
        · refine wpAny_execs_cons (s5r_miss (r := 0) B (fr_ps hp F) X T N9 ti.cf ti.pf ti.hv hb off off2 hz haw hdp hun fun h1 tk1 F1 N1 => ?_)
          rw [kstB_self hp] at F1
          exact stE B X T hdp hun F1 (n5_to N1) (hI_mk (hI_ab hI) (hI_al hI) (hI_awl hI) (hI_cl hI)) { ti with wbh := ti.wbh } (lm_state (lm_set (k := "told") lm (by decide)) "tried" qs) hnf R
      · have h4 : r = 3 := by omega
        subst h4
        have hp : ∀ p ∈ ([("state", .str (Str.ofString "tried") qs), ("conn", .ref x.ac), ("form", .int 3 tr), ("data", .bytes b0 td), ("went", .ref awl), ("now", .int now qn), ("wait", .int wait qw)] : List (Str × Value)), m p.1 = some p.2 := hpc hst (hpc lm.conn (hpc hform (hpc hdata (hpc lm.went (hpc hnow (hpc hwait hp0))))))
        by_cases hle : 3 * wait ≤ now + wait
        · refine wpAny_execs_cons (s5t_over (r := 0) B (fr_ps hp F) X T N9 ti.cf ti.pf ti.hv hle off off2 hz haw hdp hun fun c1 t1 t2 io h1 tk1 cf1 pf1 o1 F1 N1 => ?_)
          rw [kstB_self hp] at F1
          exact stE (ph := .home) B X T hdp hun F1 (n5_to N1) (hI_mk (hI_ab hI) (hI_al hI) (hI_awl hI) (off5_i o1)) { cf := cf1, pf := pf1, hv := ti.hv, hn := ti.hn, kb0 := ti.kb0, kb1 := ti.kb1, wbh := hwb, off := off5_a o1, d1 := ti.d1, d2 := ti.d2, d3 := ti.d3 } (lm_state (lm_set (k := "is_over") (lm_now lm (now + wait) t2) (by decide)) "home" t1) (fun e => nomatch e) R
        · refine wpAny_execs_cons (s5t_tried (r := 0) B (fr_ps hp F) X T N9 ti.cf ti.pf ti.hv (by omega) off off2 hz haw hdp hun fun t2 io h1 tk1 F1 N1 => ?_)
          rw [kstB_self hp] at F1
          exact stE (now := now + wait) B X T hdp hun F1 (n5_to N1) (hI_mk (hI_ab hI) (hI_al hI) (hI_awl hI) (hI_cl hI)) { ti with wbh := ti.wbh } (lm_state (lm_set (k := "is_over") (lm_now lm (now + wait) t2) (by decide)) "tried" qs) hnf R
  | proven =>
    by_cases h2 : r < 2
    · have hp : ∀ p ∈ ([("state", .str (Str.ofString "proven") qs), ("conn", .ref x.ac), ("form", .int r tr), ("data", .bytes b0 td), ("went", .ref awl), ("now", .int now qn), ("wait", .int wait qw)] : List (Str × Value)), m p.1 = some p.2 := hpc hst (hpc lm.conn (hpc hform (hpc hdata (hpc lm.went (hpc hnow (hpc hwait hp0))))))
      refine wpAny_execs_cons (s5l_proven (b := false) B (fr_ps hp F) X T N5 ti.cf ti.pf ti.hv off h2 hdp hun fun h1 tk1 F1 N1 => ?_)
      rw [kstB_self hp] at F1
      exact stE B X T hdp hun F1 (n5_to N1) (hI_mk (hI_ab hI) (hI_al hI) (hI_awl hI) (hI_cl hI)) { ti with wbh := rfl } (lm_isw lm false) hnf R
    · by_cases h3 : r = 2
      · subst h3
        have hp : ∀ p ∈ ([("state", .str (Str.ofString "proven") qs), ("conn", .ref x.ac), ("form", .int 2 tr), ("data", .bytes b0 td), ("went", .ref awl), ("now", .int now qn), ("wait", .int wait qw)] : List (Str × Value)), m p.1 = some p.2 := hpc hst (hpc lm.conn (hpc hform (hpc hdata (hpc lm.went (hpc hnow (hpc hwait hp0))))))
        refine wpAny_execs_cons (s5r_proven (r := 0) (b := false) B (fr_ps hp F) X T N9 ti.cf ti.pf ti.hv off off2 hz haw hdp hun fun h1 tk1 F1 N1 => ?_)
        rw [kstB_self hp] at F1
        exact stE B X T hdp hun F1 (n5_to N1) (hI_mk (hI_ab hI) (hI_al hI) (hI_awl hI) (hI_cl hI)) { ti with wbh := ti.wbh } (lm_state (lm_set (k := "told") lm (by decide)) "proven" qs) hnf R
      · have h4 : r = 3 := by omega
        subst h4
        have hp : ∀ p ∈ ([("state", .str (Str.ofString "proven") qs), ("conn", .ref x.ac), ("form", .int 3 tr), ("data", .bytes b0 td), ("went", .ref awl), ("now", .int now qn), ("wait", .int wait qw)] : List (Str × Value)), m p.1 = some p.2 := hpc hst (hpc lm.conn (hpc hform (hpc hdata (hpc lm.went (hpc hnow (hpc hwait hp0))))))
        refine wpAny_execs_cons (s5t_proven (r := 0) (b := false) B (fr_ps hp F) X T N9 ti.cf ti.pf ti.hv off off2 hz haw hdp hun fun t2 io h1 tk1 F1 N1 => ?_)
        rw [kstB_self hp] at F1
        exact stE (now := now + wait) B X T hdp hun F1 (n5_to N1) (hI_mk (hI_ab hI) (hI_al hI) (hI_awl hI) (hI_cl hI)) { ti with wbh := ti.wbh } (lm_state (lm_set (k := "is_over") (lm_now lm (now + wait) t2) (by decide)) "proven" qs) hnf R
  | home =>
    by_cases h2 : r < 2
    · have hp : ∀ p ∈ ([("state", .str (Str.ofString "home") qs), ("conn", .ref x.ac), ("form", .int r tr), ("data", .bytes b0 td), ("went", .ref awl), ("now", .int now qn), ("wait", .int wait qw)] : List (Str × Value)), m p.1 = some p.2 := hpc hst (hpc lm.conn (hpc hform (hpc hdata (hpc lm.went (hpc hnow (hpc hwait hp0))))))
      refine wpAny_execs_cons (s5l_home (b := false) B (fr_ps hp F) X T N5 ti.cf ti.pf ti.hv off h2 hdp hun fun h1 tk1 F1 N1 => ?_)
      rw [kstB_self hp] at F1
      exact stE B X T hdp hun F1 (n5_to N1) (hI_mk (hI_ab hI) (hI_al hI) (hI_awl hI) (hI_cl hI)) { ti with wbh := rfl } (lm_isw lm false) hnf R
    · by_cases h3 : r = 2
      · subst h3
        have hp : ∀ p ∈ ([("state", .str (Str.ofString "home") qs), ("conn", .ref x.ac), ("form", .int 2 tr), ("data", .bytes b0 td), ("went", .ref awl), ("now", .int now qn), ("wait", .int wait qw)] : List (Str × Value)), m p.1 = some p.2 := hpc hst (hpc lm.conn (hpc hform (hpc hdata (hpc lm.went (hpc hnow (hpc hwait hp0))))))
        refine wpAny_execs_cons (s5r_home (r := 0) (b := false) B (fr_ps hp F) X T N9 ti.cf ti.pf ti.hv off off2 hz haw hdp hun fun h1 tk1 F1 N1 => ?_)
        rw [kstB_self hp] at F1
        exact stE B X T hdp hun F1 (n5_to N1) (hI_mk (hI_ab hI) (hI_al hI) (hI_awl hI) (hI_cl hI)) { ti with wbh := ti.wbh } (lm_state (lm_set (k := "told") lm (by decide)) "home" qs) hnf R
      · have h4 : r = 3 := by omega
        subst h4
        have hp : ∀ p ∈ ([("state", .str (Str.ofString "home") qs), ("conn", .ref x.ac), ("form", .int 3 tr), ("data", .bytes b0 td), ("went", .ref awl), ("now", .int now qn), ("wait", .int wait qw)] : List (Str × Value)), m p.1 = some p.2 := hpc hst (hpc lm.conn (hpc hform (hpc hdata (hpc lm.went (hpc hnow (hpc hwait hp0))))))
        refine wpAny_execs_cons (s5t_home (r := 0) (b := false) B (fr_ps hp F) X T N9 ti.cf ti.pf ti.hv off off2 hz haw hdp hun fun t2 io h1 tk1 F1 N1 => ?_)
        rw [kstB_self hp] at F1
        exact stE (now := now + wait) B X T hdp hun F1 (n5_to N1) (hI_mk (hI_ab hI) (hI_al hI) (hI_awl hI) (hI_cl hI)) { ti with wbh := ti.wbh } (lm_state (lm_set (k := "is_over") (lm_now lm (now + wait) t2) (by decide)) "home" qs) hnf R
set_option maxHeartbeats 4000000 in
theorem stC {w : World} {p : Program} {loose : List Str} {mean : ExcName → Option Value} {mg mb : Str → Option Value} {dp un : Nat} {gd : Option (List Code)} {a : Addr} {ccd : Value} {outer : List Env} {A₀ : Around} {base h₀ : Heap} {L : Addr} {m : Str → Option Value} {s : Shared} {Q : Flow → Shared → Prop} {E : Value → Shared → Prop} {wait : Int} {x : Fx} {ab al I : Addr} {na : Nat} {xs : List Value} {oi : Obj} {i : Nat} {c : Ch} {n : Nat} {ph : Ph} {now : Int} {wb : Bool} {awl : Addr} {kb : Int} {ws : List Value} {tkb : Tok} {nb nl : Nat} {zs : List Int}
    (B : Below A₀ base outer h₀) (X : (hd.heap_1 w.params).In h₀) (T : Top p loose mean mg mb h₀) (hdp : dp + 14 < recursionLimit) (hun : un + 400 < cLine) (F : Fr h₀ L s.heap m) (N : News h₀ L s.heap ((I, oi) :: tled x ab al na xs c awl kb tkb nb nl ws)) (hI : ∀ p ∈ tled x ab al na xs c awl kb tkb nb nl ws, p.1 ≠ I) (ti : TI w wait x ab al i c n ph now wb awl kb ws) (lm : LM x wait ab awl now wb (stN ph) m) (hnf : ph ≠ .fresh) (hwb : wb = false) (haw : @LT.lt Nat _ c.awc awl) (hkb : kb ≤ 2 * (i : Int)) (hx : IntsAre xs zs) (hxl : xs.length ≤ 30) (hi : i ≤ 20) (R : RT w wait x ab al na xs h₀ L I oi i s Q) :
    wpAny (model PySem.Challenge.rw_pf0276_01.row.toRowW.prog w) (ktrTop dp un gd "law" lawScope L a ccd [] outer) (execs [turnSt 3, turnSt 4, turnSt 5, turnSt 6, turnSt 7] (envX "law" lawScope L a ccd [])) Q E s := by
  have N5 := n5_of N
  have N3 := n3_of N5
  have off := off5 (oi := oi) (o1 := listOf #[.ref al, .int kb tkb] nb) (o2 := listOf xs.toArray na) (o3 := listOf ws.toArray nl) ti.off (hI_cl hI)
  have hl : ws.length ≤ 20 := by rw [ti.hv.len, chals_len]; exact ti.cf.hn
  have hk0 := ti.kb0
  obtain ⟨qs, hst⟩ := lm.state
  obtain ⟨qw, hwait⟩ := lm.wait
  have done : ∀ h1 tk1, Fr h₀ L h1 m → News h₀ L h1 (CL x c ++ ((awl, listOf ws.toArray nl) :: r5 I ab al oi (listOf #[.ref al, .int kb tkb] nb) (listOf xs.toArray na))) →
      wpAny (model PySem.Challenge.rw_pf0276_01.row.toRowW.prog w) (ktrTop dp un gd "law" lawScope L a ccd [] outer) (execs [turnSt 4, turnSt 5, turnSt 6, turnSt 7] (envX "law" lawScope L a ccd [])) Q E { s with heap := h1, toks := tk1 } := by
    intro h1 tk1 F1 N1
    have N4 := n4_of (n5_to (n3_to N1))
    have hp : ∀ p ∈ ([("box", .ref ab), ("went", .ref awl)] : List (Str × Value)), m p.1 = some p.2 := hpc lm.box (hpc lm.went hp0)
    refine wpAny_execs_cons (s4 (n := 0) B (fr_ps hp F1) X T N4 hx hxl hk0 (by omega) ti.d1 ti.d2 ti.d3 (off4 ti.off (hI_ab hI) (hI_al hI)) ti.hv hl hdp hun fun r q1 q2 t1 nb2 b h2 tk2 hr0 hr4 hb F2 N2 => ?_)
    rw [kstB_self hp] at F2
    exact stD B X T hdp hun F2 (n4_to N2) (hI_mk (hI_ab hI) (hI_al hI) (hI_awl hI) (hI_cl hI)) { ti with kb0 := by omega, kb1 := by omega } (lm_set (k := "form") (lm_set (k := "data") lm (by decide)) (by decide)) hnf hwb haw (if_pos rfl) ((if_neg (by decide)).trans (if_pos rfl)) hr0 hr4 R
  cases ph with
  | fresh => exact absurd rfl hnf
  | tried b =>
    have hp : ∀ p ∈ ([("state", .str (Str.ofString "tried") qs), ("conn", .ref x.ac), ("wait", .int wait qw)] : List (Str × Value)), m p.1 = some p.2 := hpc hst (hpc lm.conn (hpc hwait hp0))
    refine wpAny_execs_cons (s3_tried B (fr_ps hp F) X T N3 ti.cf ti.pf off hdp hun fun h1 tk1 F1 N1 => ?_)
    rw [kstB_self hp] at F1
    exact done h1 tk1 F1 N1
  | proven =>
    have hp : ∀ p ∈ ([("state", .str (Str.ofString "proven") qs), ("conn", .ref x.ac), ("wait", .int wait qw)] : List (Str × Value)), m p.1 = some p.2 := hpc hst (hpc lm.conn (hpc hwait hp0))
    refine wpAny_execs_cons (s3_proven (b := false) B (fr_ps hp F) X T N3 ti.cf ti.pf off hdp hun fun h1 tk1 F1 N1 => ?_)
    rw [kstB_self hp] at F1
    exact done h1 tk1 F1 N1
  | home =>
    have hp : ∀ p ∈ ([("state", .str (Str.ofString "home") qs), ("conn", .ref x.ac), ("wait", .int wait qw)] : List (Str × Value)), m p.1 = some p.2 := hpc hst (hpc lm.conn (hpc hwait hp0))
    refine wpAny_execs_cons (s3_home (b := false) B (fr_ps hp F) X T N3 ti.cf ti.pf off hdp hun fun h1 tk1 F1 N1 => ?_)
    rw [kstB_self hp] at F1
    exact done h1 tk1 F1 N1
set_option maxHeartbeats 4000000 in
theorem stB_no {w : World} {p : Program} {loose : List Str} {mean : ExcName → Option Value} {mg mb : Str → Option Value} {dp un : Nat} {gd : Option (List Code)} {a : Addr} {ccd : Value} {outer : List Env} {A₀ : Around} {base h₀ : Heap} {L : Addr} {m : Str → Option Value} {s : Shared} {Q : Flow → Shared → Prop} {E : Value → Shared → Prop} {wait : Int} {x : Fx} {ab al I : Addr} {na : Nat} {xs : List Value} {oi : Obj} {i : Nat} {c : Ch} {n : Nat} {ph : Ph} {now : Int} {wb : Bool} {awl : Addr} {kb : Int} {ws : List Value} {tkb : Tok} {nb nl : Nat} {zs : List Int} {ad at0 : Addr} {nd : Nat} {t1 t2 : Tok}
    (B : Below A₀ base outer h₀) (X : (hd.heap_1 w.params).In h₀) (T : Top p loose mean mg mb h₀) (hdp : dp + 14 < recursionLimit) (hun : un + 400 < cLine) (F : Fr h₀ L s.heap m) (N : News h₀ L s.heap ((ad, listOf #[] nd) :: (awl, listOf ws.toArray nl) :: (I, oi) :: (ab, listOf #[.ref al, .int kb tkb] nb) :: (al, listOf xs.toArray na) :: CL x c)) (cf : CF w wait x c n) (pf : PhF wait x c n ph) (hv : BAre ws (chals n)) (hn : n ≤ i) (hnf : ph ≠ .fresh) (hwbk : wbOk false now ph) (hkb0 : 0 ≤ kb) (hkb : kb ≤ 2 * (i : Int)) (d1 : @LT.lt Nat _ al ab) (hab : ab ≠ I) (hal : al ≠ I) (off : OffA (CL x c) [awl, ab, al]) (offI : ∀ p ∈ CL x c, p.1 ≠ I)
    (lm : LM x wait ab awl now wb (stN ph) m) (hdue : m "due" = some (.ref ad)) (hx : IntsAre xs zs) (hxl : xs.length ≤ 30) (hi : i ≤ 20) (R : RT w wait x ab al na xs h₀ L I oi i s Q) :
    wpAny (model PySem.Challenge.rw_pf0276_01.row.toRowW.prog w) (ktrTop dp un gd "law" lawScope L a ccd [] outer) (execs [turnSt 2, turnSt 3, turnSt 4, turnSt 5, turnSt 6, turnSt 7] (envX "law" lawScope L a ccd [])) Q E s := by
  have hl : ws.length ≤ 20 := by rw [hv.len, chals_len]; exact cf.hn
  have hp : ∀ p ∈ ([("went", .ref awl), ("due", .ref ad)] : List (Str × Value)), m p.1 = some p.2 := hpc lm.went (hpc hdue hp0)
  refine wpAny_execs_cons (s2_no B (fr_ps hp F) X T N hl hdp hun fun awl2 nl2 h1 tk1 lt F1 N1 => ?_)
  rw [kstB_self hp] at F1
  have ltc : ∀ q ∈ CL x c, @LT.lt Nat _ q.1 awl2 := fun q hq => lt q (.tail _ (.tail _ (.tail _ hq)))
  exact stC (ph := ph) (ws := ws) B X T hdp hun F1 (n2_to N1) (hI_mk hab hal (Nat.ne_of_gt (lt _ (.head _))) offI)
    { cf := cf, pf := pf, hv := hv, hn := hn, kb0 := hkb0, kb1 := by omega, wbh := hwbk, off := off_new off ltc, d1 := d1, d2 := Nat.ne_of_lt (lt _ (.tail _ (.head _))), d3 := Nat.ne_of_lt (lt _ (.tail _ (.tail _ (.head _)))) }
    (lm_went (lm_isw lm false) awl2) hnf rfl (ltc _ cl_awc) hkb hx hxl hi R
set_option maxHeartbeats 4000000 in
theorem stB_yes {w : World} {p : Program} {loose : List Str} {mean : ExcName → Option Value} {mg mb : Str → Option Value} {dp un : Nat} {gd : Option (List Code)} {a : Addr} {ccd : Value} {outer : List Env} {A₀ : Around} {base h₀ : Heap} {L : Addr} {m : Str → Option Value} {s : Shared} {Q : Flow → Shared → Prop} {E : Value → Shared → Prop} {wait : Int} {x : Fx} {ab al I : Addr} {na : Nat} {xs : List Value} {oi : Obj} {i : Nat} {c : Ch} {n : Nat} {ph : Ph} {now : Int} {wb : Bool} {awl : Addr} {kb : Int} {ws : List Value} {tkb : Tok} {nb nl : Nat} {zs : List Int} {ad at0 : Addr} {nd : Nat} {t1 t2 : Tok}
    (B : Below A₀ base outer h₀) (X : (hd.heap_1 w.params).In h₀) (T : Top p loose mean mg mb h₀) (hdp : dp + 14 < recursionLimit) (hun : un + 400 < cLine) (F : Fr h₀ L s.heap m) (N : News h₀ L s.heap ((ad, listOf #[.ref at0] nd) :: (at0, { cls := .type "tuple", data := .seq #[.str (Str.ofString "path_challenge") t1, .bytes (chal n) t2] }) :: (awl, listOf ws.toArray nl) :: (I, oi) :: (ab, listOf #[.ref al, .int kb tkb] nb) :: (al, listOf xs.toArray na) :: CL x c)) (cf : CF w wait x c (n + 1)) (pf : PhF wait x c (n + 1) (.tried false)) (hv : BAre ws (chals n)) (hn : (n + 1) ≤ i) (hkb0 : 0 ≤ kb) (hkb : kb ≤ 2 * (i : Int)) (d1 : @LT.lt Nat _ al ab) (hab : ab ≠ I) (hal : al ≠ I) (off : OffA (CL x c) [awl, ab, al]) (offI : ∀ p ∈ CL x c, p.1 ≠ I)
    (lm : LM x wait ab awl now wb "tried" m) (hdue : m "due" = some (.ref ad)) (hx : IntsAre xs zs) (hxl : xs.length ≤ 30) (hi : i ≤ 20) (R : RT w wait x ab al na xs h₀ L I oi i s Q) :
    wpAny (model PySem.Challenge.rw_pf0276_01.row.toRowW.prog w) (ktrTop dp un gd "law" lawScope L a ccd [] outer) (execs [turnSt 2, turnSt 3, turnSt 4, turnSt 5, turnSt 6, turnSt 7] (envX "law" lawScope L a ccd [])) Q E s := by
  have hl : ws.length ≤ 20 := by rw [hv.len, chals_len]; exact Nat.le_trans (Nat.le_succ n) cf.hn
  have hp : ∀ p ∈ ([("went", .ref awl), ("due", .ref ad)] : List (Str × Value)), m p.1 = some p.2 := hpc lm.went (hpc hdue hp0)
  refine wpAny_execs_cons (s2_yes B (fr_ps hp F) X T N hl hdp hun fun awl2 nl2 t3 h1 tk1 lt F1 N1 => ?_)
  rw [kstB_self hp] at F1
  have ltc : ∀ q ∈ CL x c, @LT.lt Nat _ q.1 awl2 := fun q hq => lt q (.tail _ (.tail _ (.tail _ hq)))
  exact stC (ph := (.tried false)) (ws := (ws ++ [Value.bytes (chal n) t3])) B X T hdp hun F1 (n2_to N1) (hI_mk hab hal (Nat.ne_of_gt (lt _ (.head _))) offI)
    { cf := cf, pf := pf, hv := (by rw [chals_succ]; exact hv.app (.cons _ _ .nil)), hn := hn, kb0 := hkb0, kb1 := by omega, wbh := rfl, off := off_new off ltc, d1 := d1, d2 := Nat.ne_of_lt (lt _ (.tail _ (.head _))), d3 := Nat.ne_of_lt (lt _ (.tail _ (.tail _ (.head _)))) }
    (lm_went (lm_isw lm false) awl2) (fun e => nomatch e) rfl (ltc _ cl_awc) hkb hx hxl hi R
set_option maxHeartbeats 4000000 in
theorem stA {w : World} {p : Program} {loose : List Str} {mean : ExcName → Option Value} {mg mb : Str → Option Value} {dp un : Nat} {gd : Option (List Code)} {a : Addr} {ccd : Value} {outer : List Env} {A₀ : Around} {base h₀ : Heap} {L : Addr} {m : Str → Option Value} {s : Shared} {Q : Flow → Shared → Prop} {E : Value → Shared → Prop} {wait : Int} {x : Fx} {ab al I : Addr} {na : Nat} {xs : List Value} {oi : Obj} {i : Nat} {c : Ch} {n : Nat} {ph : Ph} {now : Int} {wb : Bool} {awl : Addr} {kb : Int} {ws : List Value} {tkb : Tok} {nb nl : Nat} {zs : List Int}
    (B : Below A₀ base outer h₀) (X : (hd.heap_1 w.params).In h₀) (T : Top p loose mean mg mb h₀) (hdp : dp + 14 < recursionLimit) (hun : un + 400 < cLine) (F : Fr h₀ L s.heap m) (N : News h₀ L s.heap ((I, oi) :: tled x ab al na xs c awl kb tkb nb nl ws)) (hI : ∀ p ∈ tled x ab al na xs c awl kb tkb nb nl ws, p.1 ≠ I) (CH : CodeHd h₀ 473 469) (ti : TI w wait x ab al i c n ph now wb awl kb ws) (lm : LM x wait ab awl now wb (stN ph) m) (hx : IntsAre xs zs) (hxl : xs.length ≤ 30) (hi : i + 1 ≤ 20) (R : RT w wait x ab al na xs h₀ L I oi (i + 1) s Q) :
    wpAny (model PySem.Challenge.rw_pf0276_01.row.toRowW.prog w) (ktrTop dp un gd "law" lawScope L a ccd [] outer) (execs [turnSt 0, turnSt 1, turnSt 2, turnSt 3, turnSt 4, turnSt 5, turnSt 6, turnSt 7] (envX "law" lawScope L a ccd [])) Q E s := by
  have off := off5 (oi := oi) (o1 := listOf #[.ref al, .int kb tkb] nb) (o2 := listOf xs.toArray na) (o3 := listOf ws.toArray nl) ti.off (hI_cl hI)
  have hl : ws.length = n := by rw [ti.hv.len, chals_len]
  have hk0 := ti.kb0
  have hk1 := ti.kb1
  have hn := ti.hn
  have hab := hI_ab hI
  have hal := hI_al hI
  have wbh := ti.wbh
  obtain ⟨qn, hnow⟩ := lm.now
  cases ph with
  | fresh =>
    have hw : m "is_wanted" = some (.bool true) := wbh.1 ▸ lm.isw
    have hp : ∀ p ∈ ([("is_wanted", .bool true), ("went", .ref awl)] : List (Str × Value)), m p.1 = some p.2 := hpc hw (hpc lm.went hp0)
    refine wpAny_execs_cons (s0_yes B (fr_ps hp F) X T (n0_of N) hl ti.cf.hn hdp hun fun ad at0 nd t1 t2 h1 tk1 lt l1 l2 F1 N1 => ?_)
    rw [kstB_self hp] at F1
    have lm1 := lm_set (k := "due") (v := .ref ad) lm (by decide)
    have hd1 : (fun y : Str => if y = "due" then some (Value.ref ad) else m y) "due" = some (Value.ref ad) := if_pos rfl
    generalize (fun y : Str => if y = "due" then some (Value.ref ad) else m y) = m1 at F1 lm1 hd1
    obtain ⟨qn1, hnow1⟩ := lm1.now
    have hp1 : ∀ p ∈ ([("conn", .ref x.ac), ("now", .int now qn1), ("due", .ref ad)] : List (Str × Value)), m1 p.1 = some p.2 := hpc lm1.conn (hpc hnow1 (hpc hd1 hp0))
    have lc : ∀ q ∈ CL x c, @LT.lt Nat _ q.1 ad := fun q hq => Nat.lt_trans (lt q (.tail _ (.tail _ (.tail _ hq)))) l2
    refine wpAny_execs_cons (s1_first B (fr_ps hp1 F1) X T (n1_of N1) ti.cf ti.pf (off_y off lt l1 l2) (fun y hy => Nat.ne_of_lt (lc y hy)) (lc _ cl_awc) CH wbh.2 hdp hun fun c1 h2 tk2 cf1 pf1 o1 F2 N2 => ?_)
    rw [kstB_self hp1] at F2
    exact stB_yes (ph := .fresh) B X T hdp hun F2 (n2_of N2) cf1 pf1 ti.hv (Nat.succ_le_succ hn) hk0 (by omega) ti.d1 hab hal (off5_a o1) (off5_i o1) lm1 hd1 hx hxl hi R
  | tried b =>
    cases b with
    | true =>
    have hw : m "is_wanted" = some (.bool true) := (show wb = true from wbh) ▸ lm.isw
    have hp : ∀ p ∈ ([("is_wanted", .bool true), ("went", .ref awl)] : List (Str × Value)), m p.1 = some p.2 := hpc hw (hpc lm.went hp0)
    refine wpAny_execs_cons (s0_yes B (fr_ps hp F) X T (n0_of N) hl ti.cf.hn hdp hun fun ad at0 nd t1 t2 h1 tk1 lt l1 l2 F1 N1 => ?_)
    rw [kstB_self hp] at F1
    have lm1 := lm_set (k := "due") (v := .ref ad) lm (by decide)
    have hd1 : (fun y : Str => if y = "due" then some (Value.ref ad) else m y) "due" = some (Value.ref ad) := if_pos rfl
    generalize (fun y : Str => if y = "due" then some (Value.ref ad) else m y) = m1 at F1 lm1 hd1
    obtain ⟨qn1, hnow1⟩ := lm1.now
    have hp1 : ∀ p ∈ ([("conn", .ref x.ac), ("now", .int now qn1), ("due", .ref ad)] : List (Str × Value)), m1 p.1 = some p.2 := hpc lm1.conn (hpc hnow1 (hpc hd1 hp0))
    have lc : ∀ q ∈ CL x c, @LT.lt Nat _ q.1 ad := fun q hq => Nat.lt_trans (lt q (.tail _ (.tail _ (.tail _ hq)))) l2
    refine wpAny_execs_cons (s1_again B (fr_ps hp1 F1) X T (n1_of N1) ti.cf ti.pf (off_y off lt l1 l2) (fun y hy => Nat.ne_of_lt (lc y hy)) (lc _ cl_awc) CH (by omega) hdp hun fun c1 h2 tk2 cf1 pf1 o1 F2 N2 => ?_)
    rw [kstB_self hp1] at F2
    exact stB_yes (ph := .fresh) B X T hdp hun F2 (n2_of N2) cf1 pf1 ti.hv (Nat.succ_le_succ hn) hk0 (by omega) ti.d1 hab hal (off5_a o1) (off5_i o1) lm1 hd1 hx hxl hi R
    | false =>
    have hw : m "is_wanted" = some (.bool false) := (show wb = false from wbh) ▸ lm.isw
    have hp : ∀ p ∈ ([("is_wanted", .bool false)] : List (Str × Value)), m p.1 = some p.2 := hpc hw hp0
    refine wpAny_execs_cons (s0_no B (fr_ps hp F) X T N hdp hun fun ad nd h1 tk1 lt F1 N1 => ?_)
    rw [kstB_self hp] at F1
    have lm1 := lm_set (k := "due") (v := .ref ad) lm (by decide)
    have hd1 : (fun y : Str => if y = "due" then some (Value.ref ad) else m y) "due" = some (Value.ref ad) := if_pos rfl
    generalize (fun y : Str => if y = "due" then some (Value.ref ad) else m y) = m1 at F1 lm1 hd1
    obtain ⟨qn1, hnow1⟩ := lm1.now
    have hp1 : ∀ p ∈ ([("conn", .ref x.ac), ("now", .int now qn1), ("due", .ref ad)] : List (Str × Value)), m1 p.1 = some p.2 := hpc lm1.conn (hpc hnow1 (hpc hd1 hp0))
    have lc : ∀ q ∈ CL x c, @LT.lt Nat _ q.1 ad := fun q hq => lt q (.tail _ (.tail _ (.tail _ (.tail _ hq))))
    refine wpAny_execs_cons (s1_tried B (fr_ps hp1 F1) X T (n1n_of N1) ti.cf ti.pf (off_n off lt) (fun y hy => Nat.ne_of_lt (lc y hy)) (lc _ cl_awc) CH hdp hun fun c1 h2 tk2 cf1 pf1 o1 F2 N2 => ?_)
    rw [kstB_self hp1] at F2
    exact stB_no (at0 := ad) (t1 := (0 : Nat)) (t2 := (0 : Nat)) (ph := .tried false) B X T hdp hun F2 (n2n_of N2) cf1 pf1 ti.hv (Nat.le_succ_of_le hn) (fun e => nomatch e) rfl hk0 (by omega) ti.d1 hab hal (off5_a o1) (off5_i o1) lm1 hd1 hx hxl hi R
  | proven =>
    have hw : m "is_wanted" = some (.bool false) := (show wb = false from wbh) ▸ lm.isw
    have hp : ∀ p ∈ ([("is_wanted", .bool false)] : List (Str × Value)), m p.1 = some p.2 := hpc hw hp0
    refine wpAny_execs_cons (s0_no B (fr_ps hp F) X T N hdp hun fun ad nd h1 tk1 lt F1 N1 => ?_)
    rw [kstB_self hp] at F1
    have lm1 := lm_set (k := "due") (v := .ref ad) lm (by decide)
    have hd1 : (fun y : Str => if y = "due" then some (Value.ref ad) else m y) "due" = some (Value.ref ad) := if_pos rfl
    generalize (fun y : Str => if y = "due" then some (Value.ref ad) else m y) = m1 at F1 lm1 hd1
    obtain ⟨qn1, hnow1⟩ := lm1.now
    have hp1 : ∀ p ∈ ([("conn", .ref x.ac), ("now", .int now qn1), ("due", .ref ad)] : List (Str × Value)), m1 p.1 = some p.2 := hpc lm1.conn (hpc hnow1 (hpc hd1 hp0))
    have lc : ∀ q ∈ CL x c, @LT.lt Nat _ q.1 ad := fun q hq => lt q (.tail _ (.tail _ (.tail _ (.tail _ hq))))
    refine wpAny_execs_cons (s1_proven B (fr_ps hp1 F1) X T (n1n_of N1) ti.cf ti.pf (off_n off lt) (fun y hy => Nat.ne_of_lt (lc y hy)) (lc _ cl_awc) CH hdp hun fun c1 h2 tk2 cf1 pf1 o1 F2 N2 => ?_)
    rw [kstB_self hp1] at F2
    exact stB_no (at0 := ad) (t1 := (0 : Nat)) (t2 := (0 : Nat)) (ph := .proven) B X T hdp hun F2 (n2n_of N2) cf1 pf1 ti.hv (Nat.le_succ_of_le hn) (fun e => nomatch e) rfl hk0 (by omega) ti.d1 hab hal (off5_a o1) (off5_i o1) lm1 hd1 hx hxl hi R
  | home =>
    have hw : m "is_wanted" = some (.bool false) := (show wb = false from wbh) ▸ lm.isw
    have hp : ∀ p ∈ ([("is_wanted", .bool false)] : List (Str × Value)), m p.1 = some p.2 := hpc hw hp0
    refine wpAny_execs_cons (s0_no B (fr_ps hp F) X T N hdp hun fun ad nd h1 tk1 lt F1 N1 => ?_)
    rw [kstB_self hp] at F1
    have lm1 := lm_set (k := "due") (v := .ref ad) lm (by decide)
    have hd1 : (fun y : Str => if y = "due" then some (Value.ref ad) else m y) "due" = some (Value.ref ad) := if_pos rfl
    generalize (fun y : Str => if y = "due" then some (Value.ref ad) else m y) = m1 at F1 lm1 hd1
    obtain ⟨qn1, hnow1⟩ := lm1.now
    have hp1 : ∀ p ∈ ([("conn", .ref x.ac), ("now", .int now qn1), ("due", .ref ad)] : List (Str × Value)), m1 p.1 = some p.2 := hpc lm1.conn (hpc hnow1 (hpc hd1 hp0))
    have lc : ∀ q ∈ CL x c, @LT.lt Nat _ q.1 ad := fun q hq => lt q (.tail _ (.tail _ (.tail _ (.tail _ hq))))
    refine wpAny_execs_cons (s1_home B (fr_ps hp1 F1) X T (n1n_of N1) ti.cf ti.pf (off_n off lt) (fun y hy => Nat.ne_of_lt (lc y hy)) (lc _ cl_awc) CH hdp hun fun c1 h2 tk2 cf1 pf1 o1 F2 N2 => ?_)
    rw [kstB_self hp1] at F2
    exact stB_no (at0 := ad) (t1 := (0 : Nat)) (t2 := (0 : Nat)) (ph := .home) B X T hdp hun F2 (n2n_of N2) cf1 pf1 ti.hv (Nat.le_succ_of_le hn) (fun e => nomatch e) rfl hk0 (by omega) ti.d1 hab hal (off5_a o1) (off5_i o1) lm1 hd1 hx hxl hi R
theorem small9 : ∀ k : Fin 10, Builtin.Range.small 0 ((k.val : Nat) : Int) 1 = true := by decide
set_option maxHeartbeats 2000000 in
theorem law_loop {w : World} {p : Program} {loose : List Str} {mean : ExcName → Option Value} {mg mb : Str → Option Value} {dp un : Nat} {gd : Option (List Code)} {a : Addr} {ccd : Value} {outer : List Env} {A₀ : Around} {base h₀ : Heap} {L : Addr} {m : Str → Option Value} {s : Shared} {Q : Flow → Shared → Prop} {E : Value → Shared → Prop}
    {wait : Int} {x : Fx} {ab al : Addr} {na : Nat} {xs : List Value} {zs : List Int} {c : Ch} {awl : Addr} {kb : Int} {tkb : Tok} {nb nl : Nat} {r : Addr} {b₀ : Int} {t₀ u₀ v₀ : Tok}
    (B : Below A₀ base outer h₀) (X : (hd.heap_1 w.params).In h₀) (T : Top p loose mean mg mb h₀) (hdp : dp + 14 < recursionLimit) (hun : un + 400 < cLine) (CH : CodeHd h₀ 473 469)
    (hr : IsRange s.heap r 0 b₀ 1 t₀ u₀ v₀) (hb0 : 0 ≤ b₀) (hb1 : b₀ ≤ 9) (F : Fr h₀ L s.heap m) (N : News h₀ L s.heap (tled x ab al na xs c awl kb tkb nb nl []))
    (ti : TI w wait x ab al 0 c 0 .fresh 0 true awl kb []) (lm : LM x wait ab awl 0 true "tried" m) (hx : IntsAre xs zs) (hxl : xs.length ≤ 30)
    (done : ∀ (c : Ch) (n : Nat) (ph : Ph) (now : Int) (wb : Bool) (awl : Addr) (kb : Int) (ws : List Value) (tkb : Tok) (nb nl : Nat) (m : Str → Option Value) (h : Heap) (tk : Nat),
      TI w wait x ab al b₀.toNat c n ph now wb awl kb ws → LM x wait ab awl now wb (stN ph) m → Fr h₀ L h m → News h₀ L h (tled x ab al na xs c awl kb tkb nb nl ws) → Q .next { s with heap := h, toks := tk }) :
    wpAny (model PySem.Challenge.rw_pf0276_01.row.toRowW.prog w) (ktrTop dp un gd "law" lawScope L a ccd [] outer) (pyIter (.ref r)) (fun it s₂ => LoopAtV PySem.Challenge.rw_pf0276_01.row.toRowW.prog w (ktrTop dp un gd "law" lawScope L a ccd [] outer) h₀ (envX "law" lawScope L a ccd []) "turn" turnBody Q E it s₂) E s := by
  have hbn : (b₀.toNat : Int) = b₀ := Int.toNat_of_nonneg hb0
  refine range_turns (n := b₀.toNat) (news := tled x ab al na xs c awl kb tkb nb nl [])
    (fun i m nx => ∃ (c : Ch) (n : Nat) (ph : Ph) (now : Int) (wb : Bool) (awl : Addr) (kb : Int) (ws : List Value) (tkb : Tok) (nb nl : Nat), nx = tled x ab al na xs c awl kb tkb nb nl ws ∧ TI w wait x ab al i c n ph now wb awl kb ws ∧ LM x wait ab awl now wb (stN ph) m)
    rfl hr ?hs ?hn F N ⟨c, 0, .fresh, 0, true, awl, kb, [], tkb, nb, nl, rfl, ti, lm⟩ ?turn ?done
  case hs => (have := small9 ⟨b₀.toNat, by omega⟩; rw [← hbn]; exact this)
  case hn => (rw [rangeSize_nat]; omega)
  case turn =>
    rintro i v m₁ nx I oi h tk hi hI ⟨c, n, ph, now, wb, awl, kb, ws, tkb, nb, nl, rfl, ti, lm⟩ F₁ N₁
    refine stA B X T hdp hun F₁ N₁ hI CH ti (lm_set (k := "turn") lm (by decide)) hx hxl (by omega) ?_
    intro c n ph now wb awl kb ws tkb nb nl m h tk _ ti lm F N hI
    exact ⟨h, tk, m, _, rfl, F, N, hI, c, n, ph, now, wb, awl, kb, ws, tkb, nb, nl, rfl, ti, lm⟩
  case done =>
    rintro m₁ nx h tk ⟨c, n, ph, now, wb, awl, kb, ws, tkb, nb, nl, rfl, ti, lm⟩ F N
    exact done c n ph now wb awl kb ws tkb nb nl m₁ h tk ti lm F N
set_option maxRecDepth 100000 in
set_option maxHeartbeats 1500000 in
theorem l4 {w : World} {p : Program} {loose : List Str} {mean : ExcName → Option Value} {mg mb : Str → Option Value} {dp un : Nat} {gd : Option (List Code)} {a : Addr} {ccd : Value} {outer : List Env} {A₀ : Around} {base h₀ : Heap} {L : Addr} {m : Str → Option Value} {s : Shared} {Q : Flow → Shared → Prop} {E : Value → Shared → Prop} {rest : List (Addr × Obj)} {wait : Int} {x : Fx} {c : Ch} {ab al awl : Addr} {nb na nl : Nat} {xs : List Value} {zs : List Int} {kb : Int} {tc : Tok}
    (B : Below A₀ base outer h₀) (F : Fr h₀ L s.heap (kstB m [("box", .ref ab)])) (X : (hd.heap_1 w.params).In h₀) (T : Top p loose mean mg mb h₀)
    (N : News h₀ L s.heap ((ab, listOf #[.ref al, .int kb tc] nb) :: (al, listOf xs.toArray na) :: (awl, listOf #[] nl) :: CL x c)) (hx : IntsAre xs zs) (hxl : xs.length ≤ 30) (hc : 0 ≤ kb) (hc2 : kb ≤ 900) (ho : @LT.lt Nat _ al ab) (off : OffAll [(ab, listOf #[.ref al, .int kb tc] nb), (al, listOf xs.toArray na)] ((awl, listOf #[] nl) :: CL x c)) (ti : TI w wait x ab al 0 c 0 .fresh 0 true awl (kb + 1) []) (lm : LM x wait ab awl 0 true "tried" (kstB m [("box", .ref ab)])) (CH : CodeHd h₀ 473 469) (hE : PassesOwn (model PySem.Challenge.rw_pf0276_01.row.toRowW.prog w) (ktrTop dp un gd "law" lawScope L a ccd [] outer) (envX "law" lawScope L a ccd []) E)
    (hdp : dp + 14 < recursionLimit) (hun : un + 400 < cLine)
    (ret : ∀ (i : Nat) (c : Ch) (n : Nat) (ph : Ph) (now : Int) (wb : Bool) (awl : Addr) (kb : Int) (ws : List Value) (tkb : Tok) (nb nl : Nat) (m2 : Str → Option Value) (h1 : Heap) (tk1 : Nat), (TI w wait x ab al i c n ph now wb awl kb ws) → (LM x wait ab awl now wb (stN ph) m2) → Fr h₀ L h1 (m2) → News h₀ L h1 (tled x ab al na xs c awl kb tkb nb nl ws) → Q .next { s with heap := h1, toks := tk1 }) :
    wpAny (model PySem.Challenge.rw_pf0276_01.row.toRowW.prog w) (ktrTop dp un gd "law" lawScope L a ccd [] outer) (exec (lawSt 4) (envX "law" lawScope L a ccd [])) Q E s := by
  generalize hS : lawScope = S
  conv at hS => lhs; whnf
  subst hS
  generalize hS : lawSt 4 = S
  conv at hS => lhs; whnf
  subst hS
  revert X; k_fill; intro X
  refine For_invVF F (by with_unfolding_all rfl) (by with_unfolding_all rfl) ?_ (hE := hE)
  w_top off
  k_with_none
  (k_with "pyIter ref" => (k_here; k_dflt (refine' law_loop ?B ?X ?T ?d ?u ?c ?r ?b0 ?b1 ?F ?N ?ti ?lm ?hx ?hxl ?_; (case r => assumption); (case B | X | T => k_asm); (case d | u | c => assumption); (case b0 | b1 => omega); (case F | N | ti | lm | hx | hxl => assumption))))
  (k_with "last pyIter ref" => (k_here; k_dflt (refine' law_loop ?B ?X ?T ?d ?u ?c ?r ?b0 ?b1 ?F ?N ?ti ?lm ?hx ?hxl ?_; (case r => assumption); (case B | X | T => k_asm); (case d | u | c => assumption); (case b0 | b1 => omega); (case F | N | ti | lm | hx | hxl => assumption))))
  (k_with "call ref" => (k_here; k_dflt (refine stopAt ?a ?_; (case a => exact rfl))))
  repeat' (first | (refine Stop.mk ?_; (with_reducible (first
    | (k_here; k_dflt (refine' take ?B ?F ?X ?T ?k (newsSub ?N ?S) (Part.news ?P ?N) (Part.apart ?P) ?h0 ?h1 ?h2 ?h3 ?h4 ?h5 ?h6 ?d ?u ?_; (case B => k_asm); (case F => k_asm); (case X => k_asm); (case T => k_asm); (case k => exact rfl); (case N => k_asm); (case S => k_subL); (case P => (repeat' (first | exact Part.nil | exact Part.rest (by assumption) | (apply Part.drop; · k_mem) | (apply Part.keep; · k_all)))); (case h0 => assumption); (case h1 => (first | assumption | omega)); (case h2 => (first | assumption | omega)); (case h3 => (first | assumption | omega)); (case h4 => (first | assumption | omega)); (case h5 => (first | assumption | omega)); (case h6 => (first | assumption | omega)); (case d => ktr_room); (case u => ktr_units)); intro r' q1' q2' nb' h' tk' hl2 hfx' F' N' R'; ((have NN := newsApp N' R'); clear N' R'; (obtain ⟨hr0, hr1⟩ := hfx'); (simp only [List.cons_append, List.nil_append] at NN)))))) | (k_unfold; (try dsimp only)) | (k_end; wrow_close) | walk1 | (dsimp only; walk1) | (leave1; walk_say "STEP leave1"; try dsimp only) | fail "no step")
  all_goals (refine' ret _ _ _ _ _ _ _ _ _ _ _ _ _ _ _ ?q0 ?q1 ?q2 ?q3; (case q3 => assumption); (case q2 => assumption); (case q1 => assumption); (case q0 => assumption))
theorem nnil {h₀ h : Heap} {L : Addr} : News h₀ L h [] := fun q hq => (List.not_mem_nil hq).elim
set_option maxHeartbeats 4000000 in
theorem law_all {w : World} {p : Program} {loose : List Str} {mean : ExcName → Option Value} {mg mb : Str → Option Value} {dp un : Nat} {gd : Option (List Code)} {a : Addr} {ccd : Value} {outer : List Env} {A₀ : Around} {base h₀ : Heap} {L : Addr} {m : Str → Option Value} {s : Shared} {Q : Flow → Shared → Prop} {E : Value → Shared → Prop}
    {sa : Addr} {vs : List Value} {zs0 : List Int}
    (B : Below A₀ base outer h₀) (F : Fr h₀ L s.heap m) (X : (hd.heap_1 w.params).In h₀) (T : Top p loose mean mg mb h₀) (N : News h₀ L s.heap [(469, tabObj #[])]) (hsc : m "script" = some (.ref sa)) (hl : h₀.IsList sa vs.toArray) (hI : IntsAre vs zs0) (hlen : zs0.length ≤ 63)
    (CHb : CodeHd base 473 469) (CH : CodeHd h₀ 473 469) (hE : PassesOwn (model PySem.Challenge.rw_pf0276_01.row.toRowW.prog w) (ktrTop dp un gd "law" lawScope L a ccd [] outer) (envX "law" lawScope L a ccd []) E)
    (hdp : dp + 30 < recursionLimit) (hun : un + 600 < cLine)
    (fin : ∀ (h' : Heap) (tk' : Nat) (m' : Str → Option Value), Fr h₀ L h' m' → GrownAt 469 h' → Q (.ret (.bool true)) { s with heap := h', toks := tk' }) :
    wpAny (model PySem.Challenge.rw_pf0276_01.row.toRowW.prog w) (ktrTop dp un gd "law" lawScope L a ccd [] outer) (execs [lawSt 0, lawSt 1, lawSt 2, lawSt 3, lawSt 4, lawSt 5] (envX "law" lawScope L a ccd [])) Q E s := by
  -- the box
  have hp : ∀ p ∈ ([("script", .ref sa)] : List (Str × Value)), m p.1 = some p.2 := hpc hsc hp0
  refine wpAny_execs_cons (l0 B (fr_ps hp F) X T N hl hI hlen (by omega) (by omega) fun ab al nb na xs zs q h1 tk1 hx hxl hab hlt F1 N1 => ?_)
  rw [kstB_self hp] at F1
  have e1 : (fun y : Str => if y = "box" then some (Value.ref ab) else m y) "box" = some (Value.ref ab) := if_pos rfl
  generalize (fun y : Str => if y = "box" then some (Value.ref ab) else m y) = m1 at F1 e1
  have off1 : OffAll [(ab, listOf #[.ref al, .int 0 q] nb), (al, listOf xs.toArray na)] [((469 : Nat), tabObj #[])] := by
    intro y hy z hz
    rw [List.mem_singleton.mp hz]
    rcases List.mem_cons.mp hy with rfl | hy
    · exact Nat.ne_of_gt (Nat.lt_trans hlt.1 hab)
    · rw [List.mem_singleton.mp hy]; exact Nat.ne_of_gt hlt.1
  -- the first take
  have hp1 : ∀ p ∈ ([("box", .ref ab)] : List (Str × Value)), m1 p.1 = some p.2 := hpc e1 hp0
  refine wpAny_execs_cons (l1 B (fr_ps hp1 F1) X T N1 hx hxl (Int.le_refl _) (by decide) hab off1 (by omega) (by omega) fun r awl nb2 nl q2 t1 t2 t3 h2 tk2 hr0 hr5 hlt2 F2 N2 => ?_)
  rw [kstB_self hp1] at F2
  have lm2 : ∀ x : Fx, LM x (10 + 10 * r) ab awl 0 true "tried" (fun y : Str => if y = "conn" then some (Value.ref x.ac) else if y = "state" then some (.str (Str.ofString "tried") t3) else if y = "is_wanted" then some (.bool true) else if y = "now" then some (.int 0 t2) else if y = "went" then some (.ref awl) else if y = "wait" then some (.int (10 + 10 * r) t1) else m1 y) := fun x =>
    { box := (if_neg (by decide)).trans ((if_neg (by decide)).trans ((if_neg (by decide)).trans ((if_neg (by decide)).trans ((if_neg (by decide)).trans ((if_neg (by decide)).trans e1)))))
      wait := ⟨t1, (if_neg (by decide)).trans ((if_neg (by decide)).trans ((if_neg (by decide)).trans ((if_neg (by decide)).trans ((if_neg (by decide)).trans (if_pos rfl)))))⟩
      went := (if_neg (by decide)).trans ((if_neg (by decide)).trans ((if_neg (by decide)).trans ((if_neg (by decide)).trans (if_pos rfl))))
      now := ⟨t2, (if_neg (by decide)).trans ((if_neg (by decide)).trans ((if_neg (by decide)).trans (if_pos rfl)))⟩
      isw := (if_neg (by decide)).trans ((if_neg (by decide)).trans (if_pos rfl))
      state := ⟨t3, (if_neg (by decide)).trans (if_pos rfl)⟩
      conn := if_pos rfl }
  have ew : (fun y : Str => if y = "state" then some (Value.str (Str.ofString "tried") t3) else if y = "is_wanted" then some (.bool true) else if y = "now" then some (.int 0 t2) else if y = "went" then some (.ref awl) else if y = "wait" then some (.int (10 + 10 * r) t1) else m1 y) "wait" = some (Value.int (10 + 10 * r) t1) := (if_neg (by decide)).trans ((if_neg (by decide)).trans ((if_neg (by decide)).trans ((if_neg (by decide)).trans (if_pos rfl))))
  -- the state
  have hp2 : ∀ p ∈ ([("wait", .int (10 + 10 * r) t1)] : List (Str × Value)), (fun y : Str => if y = "state" then some (Value.str (Str.ofString "tried") t3) else if y = "is_wanted" then some (.bool true) else if y = "now" then some (.int 0 t2) else if y = "went" then some (.ref awl) else if y = "wait" then some (.int (10 + 10 * r) t1) else m1 y) p.1 = some p.2 := List.forall_mem_cons.mpr ⟨ew, List.forall_mem_nil _⟩
  have N2' : News h₀ L h2 ((469, tabObj #[]) :: (awl, listOf #[] nl) :: (ab, listOf #[.ref al, .int (0 + 1) q2] nb2) :: (al, listOf xs.toArray na) :: []) := nc N2 (.tail _ (.tail _ (.tail _ (.head _)))) (nc N2 (.head _) (nc N2 (.tail _ (.head _)) (nc N2 (.tail _ (.tail _ (.head _))) nnil)))
  have off2 : OffAll [((469 : Nat), tabObj #[])] ((awl, listOf #[] nl) :: (ab, listOf #[.ref al, .int (0 + 1) q2] nb2) :: (al, listOf xs.toArray na) :: []) := by
    intro y hy z hz
    rw [List.mem_singleton.mp hy]
    rcases List.mem_cons.mp hz with rfl | hz
    · exact Nat.ne_of_lt hlt2.2.2.1
    · rcases List.mem_cons.mp hz with rfl | hz
      · exact Nat.ne_of_lt (Nat.lt_trans hlt.1 hab)
      · rw [List.mem_singleton.mp hz]; exact Nat.ne_of_lt hlt.1
  refine wpAny_execs_cons (l2 B (fr_ps hp2 F2) X T N2' CHb off2 (by omega) (by omega) fun x c h3 tk3 off3 lt3 cf3 p03 F3 N3 => ?_)
  rw [kstB_self hp2] at F3
  have lm3 := lm2 x
  generalize (fun y : Str => if y = "conn" then some (Value.ref x.ac) else if y = "state" then some (.str (Str.ofString "tried") t3) else if y = "is_wanted" then some (.bool true) else if y = "now" then some (.int 0 t2) else if y = "went" then some (.ref awl) else if y = "wait" then some (.int (10 + 10 * r) t1) else m1 y) = m3 at F3 lm3
  -- the packet
  have hp3 : ∀ p ∈ ([("conn", .ref x.ac)] : List (Str × Value)), m3 p.1 = some p.2 := hpc lm3.conn hp0
  have N3' := nc N3 (List.mem_append_left _ cl_ac) (nc N3 (List.mem_append_left _ cl_dc) (nc N3 (List.mem_append_left _ cl_ap) (nc N3 (List.mem_append_left _ cl_dP) N3)))
  refine wpAny_execs_cons (l3 (n := 0) B (fr_ps hp3 F3) X T N3' cf3 p03 off3 (by omega) (by omega) fun c1 h4 tk4 cf4 pf4 off4' F4 N4 => ?_)
  rw [kstB_self hp3] at F4
  -- the loop
  have hp4 : ∀ p ∈ ([("box", .ref ab)] : List (Str × Value)), m3 p.1 = some p.2 := hpc lm3.box hp0
  have offA : OffA (CL x c1) [awl, ab, al] := off4'.adr
  have ti : TI w (10 + 10 * r) x ab al 0 c1 0 .fresh 0 true awl (0 + 1 + 1) [] :=
    { cf := cf4, pf := pf4, hv := BAre.nil, hn := Nat.le_refl _, kb0 := by decide, kb1 := by decide, wbh := ⟨rfl, rfl⟩, off := offA, d1 := hab, d2 := Nat.ne_of_lt hlt2.1, d3 := Nat.ne_of_lt hlt2.2.1 }
  have N4' : News h₀ L h4 ((ab, listOf #[.ref al, .int (0 + 1) q2] nb2) :: (al, listOf xs.toArray na) :: (awl, listOf #[] nl) :: CL x c1) :=
    nc N4 (List.mem_append_right _ (.tail _ (.head _))) (nc N4 (List.mem_append_right _ (.tail _ (.tail _ (.head _)))) (nc N4 (List.mem_append_right _ (.head _)) fun q hq => N4 q (List.mem_append_left _ hq)))
  have off5' : OffAll [(ab, listOf #[.ref al, .int (0 + 1) q2] nb2), (al, listOf xs.toArray na)] ((awl, listOf #[] nl) :: CL x c1) := by
    intro y hy z hz
    rcases List.mem_cons.mp hy with rfl | hy
    · rcases List.mem_cons.mp hz with rfl | hz
      · exact Nat.ne_of_lt hlt2.1
      · exact Ne.symm (offA z hz _ (.tail _ (.head _)))
    · rw [List.mem_singleton.mp hy]
      rcases List.mem_cons.mp hz with rfl | hz
      · exact Nat.ne_of_lt hlt2.2.1
      · exact Ne.symm (offA z hz _ (.tail _ (.tail _ (.head _))))
  refine wpAny_execs_cons (l4 (rest := []) B (fr_ps hp4 F4) X T N4' hx hxl (by decide) (by decide) hab off5' ti (by rw [kstB_self hp4]; exact lm3) CH hE (by omega) (by omega) fun i c n ph now wb awl kb ws tkb nb nl m5 h5 tk5 ti5 lm5 F5 N5 => ?_)
  -- the end
  have hp5 : ∀ p ∈ ([("went", .ref awl), ("conn", .ref x.ac)] : List (Str × Value)), m5 p.1 = some p.2 := hpc lm5.went (hpc lm5.conn hp0)
  obtain ⟨tq, hch⟩ := ti5.cf.challenged
  have hln : ws.length = n := by rw [ti5.hv.len, chals_len]
  refine wpAny_execs_cons (l5 B (fr_ps hp5 F5) X T (nc N5 (.tail _ (.tail _ (.tail _ cl_ac))) (nc N5 (.tail _ (.tail _ (.tail _ cl_dc))) (nc N5 (.tail _ (.tail _ (.tail _ cl_ao))) (nc N5 (.tail _ (.tail _ (.head _))) N5)))) ti5.cf.aC hch ti5.cf.owed hln ti5.cf.hn (by omega) (by omega) fun h6 tk6 F6 N6 => ?_)
  refine fin h6 tk6 _ F6 ⟨x.ps, ?_⟩
  have := (N6 (x.pt, tabObj x.ps) (.tail _ (.tail _ (.tail _ cl_pt)))).1
  rw [p03.tab] at this
  exact this
end
end Mine
end
open PySem PySem.W PyProof.Rows PySem.Calls
set_option maxRecDepth 100000 in
set_option maxHeartbeats 8000000 in
theorem PySem.Challenge.cw_pf0276_01_holds : PySem.Challenge.rw_pf0276_01.Holds :=
  Mine.hd (by
    k_go0
    all_goals try k_fold
    rename_i hg X0 V T0 B0 TE TW w5 hs hlay hL1 hr1 hl2 w4 w3 w2 w1 w0 hL ra w1' r0 hI hr hc1 hc2 hD h1 X' T' K' F' N' l9
    refine Mine.law_all K' F' X' T' N' rfl lifted hI (by omega) codeHd codeHd (by passes_own) ?d ?u ?fin
    case d => ktr_room
    case u => ktr_units
    case fin => 
      intro h2 tk2 m2 F2 G2
      refine ⟨⟨Or.inl ⟨.bool true, .bool true, [], rfl, fun _ => rfl, ?_, ?_, ?_⟩, fun b o e => F2.keep b o e, rfl, hg⟩, G2, trivial⟩
      · exact ReadsW.bool true
      · with_unfolding_all rfl
      · exact fun _ => ⟨List.nodup_nil, fun _ h => (List.not_mem_nil h).elim⟩)
