import PyProof.Rows.All
import Wide.All
import OpenK.AllK
import Wide.FinOn
import PySem.Challenge.RW_pb0351_01
set_option Elab.async false
set_option maxRecDepth 100000
set_option rowWalk.seconds 0
set_option compiler.extract_closed false
namespace Mine
section
open PySem PySem.W PyProof.Rows
section
abbrev rp : Program := PySem.Challenge.rw_pb0351_01.row.prog
def topRunT (tb : String → Option Builtin) (p : Program) (w : World) (n₀ : Nat) (ann : Option Value) : Nat → SharedT → Thread → Option SharedT
  | 0, _, _ => none
  | n + 1, s, t => match through t with
    | true => some s
    | false => match stepOk n₀ ann t with
      | false => none
      | true => match stepT (denote tb) p w s t with
        | some (s', t') => topRunT tb p w n₀ ann n s' t'
        | none => none
theorem topRunT_abs {tb : String → Option Builtin} {p : Program} {w : World} {n₀ : Nat} {ann : Option Value} : ∀ (n : Nat) (s : SharedT) (t : Thread) (r : SharedT), topRunT tb p w n₀ ann n s t = some r → topRun tb p w n₀ ann n s.abs t = some r.abs
  | 0, _, _, _, h => by cases h
  | n + 1, s, t, r, h => by
    unfold topRunT at h
    unfold topRun
    cases ht : through t with
    | true => rw [ht] at h; cases h; rfl
    | false =>
      rw [ht] at h
      cases hk : stepOk n₀ ann t with
      | false => rw [hk] at h; cases h
      | true =>
        rw [hk] at h
        cases hs : stepT (denote tb) p w s t with
        | none => rw [hs] at h; cases h
        | some x =>
          obtain ⟨s', t'⟩ := x
          rw [hs] at h
          have := stepT_spec hs
          rw [this]
          exact topRunT_abs n s' t' r h
def treeUp : List Obj → Nat → BT → BT
  | [], _, t => t
  | o :: r, n, t => treeUp r (n + 1) (t.ins n o)
noncomputable def bootT (P : Params) : BT := treeUp (boot_heap P).objs.toList 0 .nil
theorem left_tree {p q : Program} {loose : List Str} {Xt : Shared → Bool} {α : Type} {Yf : Shared → α} {Ya : World → α} {N m₀ n : Nat} {ann : Option Value} {life : Life} (e : opening p = plainProg p.main.scope.names) (hN : Nat.ble 600 N = true) (f : ∀ s, fenceModules? p s = some s)
    (habs : ∀ P, absHeap (bootT P) n life = boot_heap P) (size : ∀ P : Params, ((boot_heap P).isNs mainGlobals, (boot_heap P).objs.size, (boot_heap P).nsMap mainGlobals "__annotations__") = (true, m₀, ann))
    (h : ∀ (w : World) (os : OsState), (topRunT treeTable p w m₀ ann N ⟨bootT w.params, n, life, Array.mk [], boot_drawn, boot_toks, os⟩ (topStub p)).map (fun st => (staticsOk (importedModules p.main.body) (boot_heap w.params) st.abs.heap && namesBound p st.abs.heap && gensDone st.abs && laidKept (boot_heap w.params) st.abs.heap, openSeen q loose (importedModules p.main.body) Xt true st.abs, Yf st.abs)) = some (true, openGood q loose, Ya w)) : LeftO p q loose Xt Yf Ya N := fun w => by
  obtain ⟨⟨h', gs, d, k, os⟩, e1, e2⟩ := Option.map_eq_some_iff.mp (boot_open (N := N) e hN f w)
  obtain ⟨rfl, rfl, rfl, rfl⟩ : h' = boot_heap w.params ∧ gs = Array.mk [] ∧ d = boot_drawn ∧ k = boot_toks := by simpa only [Prod.mk.injEq] using e2
  obtain ⟨st, r1, r2⟩ := Option.map_eq_some_iff.mp (h w os)
  obtain ⟨l1, l2, l3⟩ : _ ∧ _ ∧ _ := by simpa only [Prod.mk.injEq] using r2
  obtain ⟨z1, z2, z3⟩ : _ ∧ _ ∧ _ := by simpa only [Prod.mk.injEq] using size w.params
  have r := topRunT_abs _ _ _ _ r1
  unfold SharedT.abs at r
  dsimp only at r
  rw [habs] at r
  unfold openEnds
  rw [e1]
  show (topFrom treeTable p w N ⟨boot_heap w.params, Array.mk [], boot_drawn, boot_toks, os⟩).map _ = _
  have t : topFrom treeTable p w N ⟨boot_heap w.params, Array.mk [], boot_drawn, boot_toks, os⟩ = some st.abs := by
    unfold topFrom
    dsimp only
    rw [z1, z2, z3, r]
    show (match staticsOk (importedModules p.main.body) (boot_heap w.params) st.abs.heap && namesBound p st.abs.heap && gensDone st.abs && laidKept (boot_heap w.params) st.abs.heap with | true => _ | false => _) = _
    rw [l1]
    rfl
  rw [t]
  show some (_, _) = _
  rw [l2, l3]
theorem opening9 : opening rp = plainProg rp.main.scope.names := by kernel_rfl
theorem fence9 : ∀ s, fenceModules? rp s = some s := fun s => by kernel_rfl
def vw : Program := PySem.W.view rp [0, 2, 4, 5, 6, 8, 9, 11, 13, 16, 18, 19, 21, 22, 23, 24]
theorem abs9 : ∀ P, absHeap (bootT P) 11 {} = boot_heap P := fun P => by kernel_rfl
theorem size9 : ∀ P : Params, ((boot_heap P).isNs mainGlobals, (boot_heap P).objs.size, (boot_heap P).nsMap mainGlobals "__annotations__") = (true, 11, some (.ref 6)) := fun P => by kernel_rfl
set_option hygiene false in
local macro_rules | `(tactic| o_law) => `(tactic| refine holds_law (by decide +kernel) fun said => ?_)
set_option hygiene false in
local macro_rules | `(tactic| k_qdec) => `(tactic| decide +kernel)
set_option hygiene false in
local macro_rules | `(tactic| o_head $H:term) => `(tactic| (refine PySem.W.holds_open (q := vw) (loose := [PySem.Str.ofString "reload"]) (Xt := fun s => PySem.W.xlAt vw [] s && PySem.W.recOk PySem.Challenge.rw_pb0351_01.row.records s) (XP := PySem.W.XL vw []) (Yf := PySem.W.Hook.obs $H) (Ya := PySem.W.Hook.val $H) (YP := PySem.W.Hook.says $H) (N := 6548) ?hl (PySem.W.Hook.of $H) (PySem.W.Hook.keeps $H) (fun s e => PySem.W.xl_of s (Bool.and_eq_true_iff.mp e).1) PySem.W.XL.keeps (by rfl) (by rfl) (by rfl) (fun s e => PySem.W.recFacts_of (Bool.and_eq_true_iff.mp e).2) (by rfl) (by first | assumption | decide +kernel) (by decide +kernel) ⟨rfl, rfl, rfl, rfl, rfl, by decide +kernel⟩ ?hw ?hc; (case hl => exact left_tree opening9 rfl fence9 abs9 size9 (fun w os => by kernel_rfl))))
set_option maxHeartbeats 8000000 in
open_top hd for PySem.Challenge.rw_pb0351_01
end
end
section
open PySem PySem.W PyProof.Rows
section
abbrev pg : Program := PySem.Challenge.rw_pb0351_01.row.prog
abbrev AA (d u : Nat) (fs : List Env) : Around := { handled := none, depth := d, frames := some fs, guards := some [], units := u }
inductive PutR (name : Str) (v : Value) : List DictEntry → List DictEntry → Prop
  | head {h k old r} : k.isStr name = true → PutR name v (⟨h, k, old⟩ :: r) (⟨h, k, v⟩ :: r)
  | tail {e r r'} : e.key.isStr name = false → PutR name v r r' → PutR name v (e :: r) (e :: r')
theorem PutR.eq {name : Str} {v : Value} {es es' : List DictEntry} {hsh : Int} {key : Value} {n : Nat} (h : PutR name v es es') : (putL name hsh key v es, putN name es n) = (es', n) := by
  induction h with
  | head e => simp [putL, putN, e]
  | tail e h ih =>
    have i1 := (Prod.mk.inj ih).1
    have i2 := (Prod.mk.inj ih).2
    simp only [putL, e, Bool.false_eq_true, if_false, i1]
    refine Prod.ext rfl ?_
    show putN name _ n = n
    unfold putN at i2 ⊢
    simpa only [List.any_cons, e, Bool.false_or] using i2
theorem hide {G : Prop} (h : ∀ P : Prop, (G → P) → P) : G := h G id
end
end
section
open PySem PySem.W PySem.Calls PyProof.Rows
section
/-- the fixed objects of a run: addresses, and the constant cells of their dicts -/
structure Kst where
  cd : Nat
  c : Nat
  bd : Nat
  b : Nat
  rw : Nat
  pd : Nat
  p : Nat
  ow : Nat
  od : Nat
  sp : Nat
  mp : Nat
  rt : Nat
  ft : Nat
  sd : Nat
  h : Nat → Int
  t : Nat → Tok
  v : Nat → Value
  cnt : Int
  bn : Nat
  pn : Nat
abbrev Kst.all (K : Kst) : List Nat := [K.cd, K.c, K.bd, K.b, K.rw, K.pd, K.p, K.ow, K.od, K.sp, K.mp, K.rt, K.ft, K.sd]
abbrev Off (K : Kst) (a : Nat) : Prop := (∀ z ∈ K.all, a ≠ z) ∨ K.sd < a
structure Kst.Ok (K : Kst) : Prop where
  o1 : K.cd < K.c
  o2 : K.c < K.bd
  o3 : K.bd < K.b
  o4 : K.b < K.rw
  o5 : K.rw < K.pd
  o6 : K.pd < K.p
  o7 : K.p < K.ow
  o8 : K.ow < K.od
  o9 : K.od < K.sp
  o10 : K.sp < K.mp
  o11 : K.mp < K.rt
  o12 : K.rt < K.ft
  o13 : K.ft < K.sd
  big : 100 < K.cd
  c0 : 4 ≤ K.cnt
  c1 : K.cnt ≤ 7
abbrev cdE (K : Kst) (low : Int) (tl : Tok) (lowest : Int) (tw : Tok) (out : Int) (tu : Tok) : List DictEntry :=
  [⟨K.h 0, .str "types" (K.t 0), K.v 0⟩, ⟨K.h 1, .str "module" (K.t 1), K.v 1⟩, ⟨K.h 2, .str "buf" (K.t 2), .ref K.b⟩, ⟨K.h 3, .str "pool" (K.t 3), .ref K.p⟩,
   ⟨K.h 4, .str "data" (K.t 4), K.v 4⟩, ⟨K.h 5, .str "keys" (K.t 5), K.v 5⟩, ⟨K.h 6, .str "imports" (K.t 6), K.v 6⟩, ⟨K.h 7, .str "fixups" (K.t 7), K.v 7⟩,
   ⟨K.h 8, .str "maps" (K.t 8), .ref K.mp⟩, ⟨K.h 9, .str "entries" (K.t 9), K.v 9⟩, ⟨K.h 10, .str "starts" (K.t 10), K.v 10⟩, ⟨K.h 11, .str "calls" (K.t 11), K.v 11⟩,
   ⟨K.h 12, .str "level" (K.t 12), K.v 12⟩, ⟨K.h 13, .str "proc" (K.t 13), K.v 13⟩, ⟨K.h 14, .str "roots" (K.t 14), .ref K.rt⟩, ⟨K.h 15, .str "low" (K.t 15), .int low tl⟩,
   ⟨K.h 16, .str "lowest" (K.t 16), .int lowest tw⟩, ⟨K.h 17, .str "free_temps" (K.t 17), .ref K.ft⟩, ⟨K.h 18, .str "spilled" (K.t 18), .ref K.sd⟩, ⟨K.h 19, .str "out_words" (K.t 19), .int out tu⟩]
abbrev poE (K : Kst) : List DictEntry :=
  [⟨K.h 20, .str "count" (K.t 20), .int K.cnt (K.t 30)⟩, ⟨K.h 21, .str "owner" (K.t 21), .ref K.ow⟩, ⟨K.h 22, .str "order" (K.t 22), .ref K.od⟩, ⟨K.h 23, .str "spiller" (K.t 23), .ref K.sp⟩]
abbrev buE (K : Kst) : List DictEntry := [⟨K.h 24, .str "rows" (K.t 24), .ref K.rw⟩]
abbrev itE (H : Nat → Int) (t : Nat → Tok) (v : Nat → Value) (mode : Str) (tm : Tok) (value : Int) (tv : Tok) (reg : Int) (tr : Tok) (root : Bool) (slot : Int) (ts : Tok) (was : Str) (tw : Tok) : List DictEntry :=
  [⟨H 40, .str "mode" (t 0), .str mode tm⟩, ⟨H 41, .str "t" (t 1), v 1⟩, ⟨H 42, .str "value" (t 2), .int value tv⟩, ⟨H 43, .str "reg" (t 3), .int reg tr⟩, ⟨H 44, .str "offset" (t 4), v 4⟩, ⟨H 45, .str "fix" (t 5), v 5⟩,
   ⟨H 46, .str "root" (t 6), .bool root⟩, ⟨H 47, .str "tag" (t 7), v 7⟩, ⟨H 48, .str "length" (t 8), v 8⟩, ⟨H 49, .str "cond" (t 9), v 9⟩, ⟨H 50, .str "truths" (t 10), v 10⟩, ⟨H 51, .str "falses" (t 11), v 11⟩,
   ⟨H 52, .str "obj" (t 12), v 12⟩, ⟨H 53, .str "place" (t 13), v 13⟩, ⟨H 54, .str "slot" (t 14), .int slot ts⟩, ⟨H 55, .str "was" (t 15), .str was tw⟩]
/-- the coder's own part of the ledger -/
abbrev coreL (K : Kst) (cE : List DictEntry) (cN : Nat) (rV : List Value) (rN : Nat) (oO : Obj) (dV : List Value) (dN : Nat) (mO : Obj) (tV : List Value) (tN : Nat) (fV : List Value) (fN : Nat) (sO : Obj) (rest : List (Addr × Obj)) : List (Addr × Obj) :=
  (K.c, instObj 351 K.cd) :: (K.cd, dictOf cE cN) :: (K.b, instObj 87 K.bd) :: (K.bd, dictOf (buE K) K.bn) :: (K.rw, listOf rV.toArray rN) ::
  (K.p, instObj 209 K.pd) :: (K.pd, dictOf (poE K) K.pn) :: (K.ow, oO) :: (K.od, listOf dV.toArray dN) :: (K.sp, methodObj (.ref 277) (.ref K.c)) ::
  (K.mp, mO) :: (K.rt, listOf tV.toArray tN) :: (K.ft, listOf fV.toArray fN) :: (K.sd, sO) :: rest
theorem offAll {K : Kst} {rest : List (Addr × Obj)} {d : Nat} (h : ∀ p ∈ rest, Off K p.1) (hm : d ∈ K.all) (hd : d ≤ K.sd) : ∀ p ∈ rest, p.1 ≠ d := fun p hp e => by
  rcases h p hp with h | h
  · exact h d hm e
  · rw [e] at h; omega
theorem cd_le {K : Kst} (O : K.Ok) : ∀ z ∈ K.all, K.cd ≤ z := by
  have l0 : K.cd ≤ K.cd := Nat.le_refl _
  have l1 : K.cd ≤ K.c := Nat.le_trans l0 (Nat.le_of_lt O.o1)
  have l2 : K.cd ≤ K.bd := Nat.le_trans l1 (Nat.le_of_lt O.o2)
  have l3 : K.cd ≤ K.b := Nat.le_trans l2 (Nat.le_of_lt O.o3)
  have l4 : K.cd ≤ K.rw := Nat.le_trans l3 (Nat.le_of_lt O.o4)
  have l5 : K.cd ≤ K.pd := Nat.le_trans l4 (Nat.le_of_lt O.o5)
  have l6 : K.cd ≤ K.p := Nat.le_trans l5 (Nat.le_of_lt O.o6)
  have l7 : K.cd ≤ K.ow := Nat.le_trans l6 (Nat.le_of_lt O.o7)
  have l8 : K.cd ≤ K.od := Nat.le_trans l7 (Nat.le_of_lt O.o8)
  have l9 : K.cd ≤ K.sp := Nat.le_trans l8 (Nat.le_of_lt O.o9)
  have l10 : K.cd ≤ K.mp := Nat.le_trans l9 (Nat.le_of_lt O.o10)
  have l11 : K.cd ≤ K.rt := Nat.le_trans l10 (Nat.le_of_lt O.o11)
  have l12 : K.cd ≤ K.ft := Nat.le_trans l11 (Nat.le_of_lt O.o12)
  have l13 : K.cd ≤ K.sd := Nat.le_trans l12 (Nat.le_of_lt O.o13)
  exact List.forall_mem_cons.mpr ⟨l0, List.forall_mem_cons.mpr ⟨l1, List.forall_mem_cons.mpr ⟨l2, List.forall_mem_cons.mpr ⟨l3, List.forall_mem_cons.mpr ⟨l4, List.forall_mem_cons.mpr ⟨l5, List.forall_mem_cons.mpr ⟨l6, List.forall_mem_cons.mpr ⟨l7, List.forall_mem_cons.mpr ⟨l8, List.forall_mem_cons.mpr ⟨l9, List.forall_mem_cons.mpr ⟨l10, List.forall_mem_cons.mpr ⟨l11, List.forall_mem_cons.mpr ⟨l12, List.forall_mem_cons.mpr ⟨l13, List.forall_mem_nil _⟩⟩⟩⟩⟩⟩⟩⟩⟩⟩⟩⟩⟩⟩
theorem off_lt {K : Kst} {a : Nat} (O : K.Ok) (h : a < K.cd) : Off K a := .inl fun z hz => Nat.ne_of_lt (Nat.lt_of_lt_of_le h (cd_le O z hz))
/-- what a called def of the coder needs of its caller -/
structure CT (w : World) (A₀ : Around) (base h₀ : Heap) (env : Env) (outer : List Env) (L d u : Nat) (mg mb : Str → Option Value) (loose : List Str) (mean : ExcName → Option Value) : Prop where
  B : Below A₀ base outer h₀
  X : (hd.heap_1 w.params).In h₀
  T : Top vw loose mean mg mb h₀
  f : env.frame = some L
  k : env.scope.kind = .function
  d : d < 900
  u : u < 9000
abbrev intK (w : World) : KeyKind pg w Int := intKind pg w
theorem kOk_facts {K : Kst} (O : K.Ok) : K.cd < K.c ∧ K.c < K.bd ∧ K.bd < K.b ∧ K.b < K.rw ∧ K.rw < K.pd ∧ K.pd < K.p ∧ K.p < K.ow ∧ K.ow < K.od ∧ K.od < K.sp ∧ K.sp < K.mp ∧ K.mp < K.rt ∧ K.rt < K.ft ∧ K.ft < K.sd ∧ 100 < K.cd ∧ 4 ≤ K.cnt ∧ K.cnt ≤ 7 :=
  ⟨O.o1, O.o2, O.o3, O.o4, O.o5, O.o6, O.o7, O.o8, O.o9, O.o10, O.o11, O.o12, O.o13, O.big, O.c0, O.c1⟩
theorem News.sub {h₀ h : Heap} {L : Addr} {news news' : List (Addr × Obj)} (N : News h₀ L h news) (hs : ∀ p ∈ news', p ∈ news) : News h₀ L h news' := fun p hp => N p (hs p hp)

abbrev tupO (vs : List Value) : Obj := { cls := .type "tuple", data := .seq vs.toArray }
theorem mem_rot {α : Type} {l r : List α} {x : α} : ∀ p ∈ l ++ x :: r, p ∈ x :: (l ++ r) := by
  intro p hp
  simp only [List.mem_append, List.mem_cons] at hp ⊢
  rcases hp with h | h | h
  · exact .inr (.inl h)
  · exact .inl h
  · exact .inr (.inr h)
theorem core_rot {h₀ h : Heap} {L : Addr} {x : Addr × Obj} {K : Kst} {cE : List DictEntry} {cN : Nat} {rV : List Value} {rN : Nat} {oO : Obj} {dV : List Value} {dN : Nat} {mO : Obj} {tV : List Value} {tN : Nat} {fV : List Value} {fN : Nat} {sO : Obj} {rest : List (Addr × Obj)}
    (N : News h₀ L h (x :: coreL K cE cN rV rN oO dV dN mO tV tN fV fN sO rest)) : News h₀ L h (coreL K cE cN rV rN oO dV dN mO tV tN fV fN sO (x :: rest)) :=
  News.sub N (mem_rot (l := coreL K cE cN rV rN oO dV dN mO tV tN fV fN sO []))
theorem of_allLt {d : Addr} : ∀ {l : List (Addr × Obj)}, AllLt d l → ∀ p ∈ l, @LT.lt Nat _ p.1 d
  | [], _ => fun _ h => nomatch h
  | _ :: _, h => fun p hp => by
    rcases List.mem_cons.mp hp with rfl | hp
    · exact h.1
    · exact of_allLt h.2 p hp
/-- a word of the frame is handed out: the place, low, lowest, the free ones -/
def tempF (low lowest : Int) (fs : List Int) : Int × Int × Int × List Int := match fs.getLast? with
  | some y => (y, low, lowest, fs.dropLast)
  | none => (low - 4, low - 4, (if low - 4 < lowest then low - 4 else lowest), [])
theorem ints_nth : ∀ {vs : List Value} {ns : List Int}, IntsAre vs ns → ∀ (a : List Int) (k : Int) (b : List Int), ns = a ++ k :: b → ∃ va vb t, vs = va ++ .int k t :: vb ∧ IntsAre va a ∧ IntsAre vb b
  | _, _, .nil, a, k, b, e => by simp at e
  | _, _, .cons n t h, [], k, b, e => by
    simp only [List.nil_append, List.cons.injEq] at e
    obtain ⟨rfl, rfl⟩ := e
    exact ⟨[], _, t, rfl, .nil, h⟩
  | _, _, .cons n t h, x :: a, k, b, e => by
    simp only [List.cons_append, List.cons.injEq] at e
    obtain ⟨rfl, e⟩ := e
    obtain ⟨va, vb, t', rfl, ha, hb⟩ := ints_nth h a k b e
    exact ⟨_, vb, t', rfl, .cons n t ha, hb⟩
theorem ints_snoc {vs : List Value} {ns : List Int} {k : Int} {t : Tok} (h : IntsAre vs ns) : IntsAre (vs ++ [.int k t]) (ns ++ [k]) := h.append (.cons k t .nil)
theorem ints_last {vs : List Value} {ns : List Int} (h : IntsAre vs ns) (hn : ns ≠ []) : ∃ vs' y t, vs = vs' ++ [.int y t] ∧ IntsAre vs' ns.dropLast ∧ ns.getLast? = some y := by
  have e : ns = ns.dropLast ++ ns.getLast hn :: [] := (List.dropLast_concat_getLast hn).symm
  obtain ⟨va, vb, t, rfl, ha, hb⟩ := ints_nth h _ _ _ e
  cases hb
  exact ⟨va, _, t, rfl, ha, List.getLast?_eq_some_getLast hn⟩
theorem mem_swap3 {α : Type} {l r : List α} {a b c : α} : ∀ p ∈ l ++ b :: c :: a :: r, p ∈ l ++ a :: b :: c :: r := by
  intro p hp
  simp only [List.mem_append, List.mem_cons] at hp ⊢
  rcases hp with h | h | h | h | h
  · exact .inl h
  · exact .inr (.inr (.inl h))
  · exact .inr (.inr (.inr (.inl h)))
  · exact .inr (.inl h)
  · exact .inr (.inr (.inr (.inr h)))
theorem core_swap3 {h₀ h : Heap} {L : Addr} {x y z : Addr × Obj} {K : Kst} {cE : List DictEntry} {cN : Nat} {rV : List Value} {rN : Nat} {oO : Obj} {dV : List Value} {dN : Nat} {mO : Obj} {tV : List Value} {tN : Nat} {fV : List Value} {fN : Nat} {sO : Obj} {rest : List (Addr × Obj)}
    (N : News h₀ L h (coreL K cE cN rV rN oO dV dN mO tV tN fV fN sO (x :: y :: z :: rest))) : News h₀ L h (coreL K cE cN rV rN oO dV dN mO tV tN fV fN sO (y :: z :: x :: rest)) :=
  News.sub N (mem_swap3 (l := coreL K cE cN rV rN oO dV dN mO tV tN fV fN sO []))
theorem notmod {d : Nat} (h : 1 < d) : (d == sysModules) = false := by
  have : d ≠ sysModules := by show d ≠ 1; omega
  simpa using this
theorem szOk {n : Nat} (h : n ≤ 100000) : n ≤ sizeLine := by rw [sizeLine_eq]; omega
theorem szLt {n : Nat} (h : n ≤ 100000) : n < sizeLine := by rw [sizeLine_eq]; omega
section
variable {prog : Program} {w : World} {A : Around} {E : Value → Shared → Prop} {s : Shared} {h₀ h : Heap} {L D : Addr} {m : Str → Option Value} {news news' pre post : List (Addr × Obj)} {n : Nat} {g : Obj → List (Addr × Obj)}
theorem len_L {vs : List Value} {c n : Nat} {Q : Value → Shared → Prop} (N : News h₀ L s.heap news) (hm : (D, listOf vs.toArray c) ∈ news) (hs : vs.length = n) (hf : n < 2 ^ 62) (h : Q (.int (n : Nat) (s.toks + 1)) { s with toks := s.toks + 1 + 1 }) :
    wpAny (model prog w) A (call (.builtin "len") [.ref D]) Q E s := PySem.W.KM.len_K N hm (by simpa using hs) hf h
theorem last_snoc (y : Value) : ∀ p : List Value, kl_last (p ++ [y]) = some (p, y)
  | [] => rfl
  | x :: r => by
    have ih := last_snoc y r
    show kl_last (x :: (r ++ [y])) = _
    unfold kl_last
    rw [ih]
theorem pop_last {p : List Value} {y : Value} {Q : Value → Shared → Prop} (F : Fr h₀ L s.heap m) (N : News h₀ L s.heap news) (U : Upd D (listOf (p ++ [y]).toArray n) (listOf p.toArray (n + 1)) news news')
    (hz : p.length < 1000) (h : ∀ h', Fr h₀ L h' m → News h₀ L h' news' → Q y { s with heap := h' }) : wpAny (model prog w) A (call (.builtin "list.pop") [.ref D]) Q E s :=
  kl_pop (its := (p ++ [y]).toArray) (p := p) (y := y) F N (last_snoc y p) U (by simp; exact szOk (by omega)) h
theorem append_L {its : List Value} {x : Value} {Q : Value → Shared → Prop} (F : Fr h₀ L s.heap m) (N : News h₀ L s.heap news) (U : Upd D (listOf its.toArray n) (listOf (its ++ [x]).toArray (n + 1)) news news')
    (hz : its.length ≤ 100000) (h : ∀ h', Fr h₀ L h' m → News h₀ L h' news' → Q .none { s with heap := h' }) : wpAny (model prog w) A (call (.builtin "list.append") [.ref D, x]) Q E s :=
  append_K (its := its.toArray) F N (by simpa using U) h (by simpa using szOk hz)
theorem remove_L {va vb : List Value} {a b : List Int} {k : Int} {t u : Tok} {Q : Value → Shared → Prop} (F : Fr h₀ L s.heap m) (N : News h₀ L s.heap news) (ha : IntsAre va a) (hb : IntsAre vb b) (hk : k ∉ a)
    (U : Upd D (listOf (va ++ .int k t :: vb).toArray n) (listOf (va ++ vb).toArray (n + 1)) news news') (hz : va.length + vb.length ≤ 10000)
    (h : ∀ h', Fr h₀ L h' m → News h₀ L h' news' → Q .none { s with heap := h' }) : wpAny (model prog w) A (call (.builtin "list.remove") [.ref D, .int k u]) Q E s := by
  obtain ⟨pre, post, rfl, rfl, hpre, hpost⟩ := U.split
  have z := N (D, listOf (va ++ .int k t :: vb).toArray n) (List.mem_append.mpr (.inr (.head _)))
  have hlen : va.length < (va ++ Value.int k t :: vb).toArray.size := by simp
  have hint : ∀ y, y ∈ (va ++ Value.int k t :: vb).toArray → ∃ i v, y = .int i v := by
    intro y hy
    have hI : IntsAre (va ++ Value.int k t :: vb) (a ++ k :: b) := ha.append (.cons k t hb)
    exact hI.all y (by simpa using hy)
  refine call_meets PySem.F.slot_list_remove ⟨_, z.1, rfl⟩ PySem.F.entry_list_remove (PySem.F.args_list_remove_2 _ _)
    (PySem.MeetsSeq.list_remove D (va ++ Value.int k t :: vb).toArray n (.int k u) (fun y => match y with | .int i _ => i == k | _ => false) ?_ va.length hlen ?_ ?_ (by rw [List.size_toArray, List.length_append, List.length_cons]; exact szOk (by omega))) ⟨z.1, ?_⟩
  · intro y hy
    obtain ⟨i, v, rfl⟩ := hint y hy
    exact PySem.MeetsSeq.EqGives.int i k v u
  · simp
  · intro j hj hlt
    have e : (va ++ Value.int k t :: vb).toArray[j] = va[j] := by simp [List.getElem_append_left hlt]
    rw [e]
    obtain ⟨i, v, hv⟩ := ha.all va[j] (List.getElem_mem hlt)
    have hi : i ∈ a := by
      obtain ⟨n', t', e1, e2⟩ := ha.at j va[j] (List.getElem?_eq_getElem hlt)
      rw [hv] at e1
      cases e1
      exact List.mem_of_getElem? e2
    rw [hv]
    show (i == k) = false
    simp only [beq_eq_false_iff_ne, ne_eq]
    rintro rfl
    exact hk hi
  · refine h _ (F.change (Heap.SameBut.update ..) z.2.1 z.2.2) (kl_turn _ N hpre hpost ?_ ?_)
    · exact kl_erase va vb _
    · simp
end
end
end
section
open PySem PySem.W PySem.Calls PyProof.Rows
section
theorem mid_nodup {α : Type} {a b : List α} {x : α} (h : (a ++ x :: b).Nodup) : (a ++ b).Nodup ∧ x ∉ a ∧ x ∉ b := by
  obtain ⟨h1, h2, h3⟩ := List.nodup_append.mp h
  obtain ⟨h4, h5⟩ := List.nodup_cons.mp h2
  exact ⟨List.nodup_append.mpr ⟨h1, h5, fun y hy z hz => h3 y hy z (.tail _ hz)⟩, fun hx => h3 x hx x (.head _) rfl, h4⟩
theorem room {d a : Nat} (k : Nat) (h : d < a) (e : Nat.ble (a + k) 1000 = true) : d + k < recursionLimit :=
  Nat.lt_of_lt_of_le (Nat.add_lt_add_right h k) (Nat.le_of_ble_eq_true e)
theorem lt_add {d a b : Nat} (k : Nat) (h : d < a) (e : Nat.ble (a + k) b = true) : d + k < b :=
  Nat.lt_of_lt_of_le (Nat.add_lt_add_right h k) (Nat.le_of_ble_eq_true e)
theorem lt_ble {x a b : Nat} (h : x < a) (e : Nat.ble a b = true) : x < b := Nat.lt_of_lt_of_le h (Nat.le_of_ble_eq_true e)
theorem le_ble {x a b : Nat} (h : x ≤ a) (e : Nat.ble a b = true) : x ≤ b := Nat.le_trans h (Nat.le_of_ble_eq_true e)
theorem le_lt {x a b : Nat} (h : x ≤ a) (e : Nat.ble (a + 1) b = true) : x < b := Nat.lt_of_le_of_lt h (Nat.le_of_ble_eq_true e)
theorem key_ne {A B rest : List (Addr × Obj)} {d : Addr} {o : Obj} (h : ((A ++ (d, o) :: B).map (·.1)).Nodup) (hr : ∀ p ∈ rest, p.1 ≠ d) : (∀ p ∈ A, p.1 ≠ d) ∧ ∀ p ∈ B ++ rest, p.1 ≠ d := by
  rw [List.map_append, List.map_cons] at h
  obtain ⟨_, h2, h3⟩ := mid_nodup h
  refine ⟨fun p hp e => h2 (List.mem_map.mpr ⟨p, hp, e⟩), fun p hp e => ?_⟩
  rcases List.mem_append.mp hp with q | q
  · exact h3 (List.mem_map.mpr ⟨p, q, e⟩)
  · exact hr p q e
theorem upd_mid {A B : List (Addr × Obj)} {d : Addr} {o o' : Obj} (h1 : ∀ p ∈ A, p.1 ≠ d) (h2 : ∀ p ∈ B, p.1 ≠ d) : Upd d o o' (A ++ (d, o) :: B) (A ++ (d, o') :: B) := by
  induction A with
  | nil => exact .head h2
  | cons a A ih => exact .tail (h1 a (.head _)) (ih fun p hp => h1 p (.tail _ hp))
theorem updF_mid {A B : List (Addr × Obj)} {d : Addr} {o : Obj} (h1 : ∀ p ∈ A, p.1 ≠ d) (h2 : ∀ p ∈ B, p.1 ≠ d) : UpdF d o (A ++ (d, o) :: B) (fun o' => A ++ (d, o') :: B) := by
  induction A with
  | nil => exact .head h2
  | cons a A ih => exact .tail (h1 a (.head _)) (ih fun p hp => h1 p (.tail _ hp))
theorem upd_of {A B rest : List (Addr × Obj)} {d : Addr} {o o' : Obj} (h : ((A ++ (d, o) :: B).map (·.1)).Nodup) (hr : ∀ p ∈ rest, p.1 ≠ d) : Upd d o o' (A ++ (d, o) :: (B ++ rest)) (A ++ (d, o') :: (B ++ rest)) :=
  upd_mid (key_ne h hr).1 (key_ne h hr).2
theorem updF_of {A B rest : List (Addr × Obj)} {d : Addr} {o : Obj} (h : ((A ++ (d, o) :: B).map (·.1)).Nodup) (hr : ∀ p ∈ rest, p.1 ≠ d) : UpdF d o (A ++ (d, o) :: (B ++ rest)) (fun o' => A ++ (d, o') :: (B ++ rest)) :=
  updF_mid (key_ne h hr).1 (key_ne h hr).2
def Up : List Nat → Prop
  | a :: b :: l => a < b ∧ Up (b :: l)
  | _ => True
theorem Up.pairwise : ∀ {l : List Nat}, Up l → l.Pairwise (· < ·)
  | [], _ => .nil
  | [_], _ => .cons (fun _ h => nomatch h) .nil
  | a :: b :: l, h => by
    have ih := Up.pairwise (l := b :: l) h.2
    refine .cons (fun x hx => ?_) ih
    rcases List.mem_cons.mp hx with rfl | hx
    · exact h.1
    · exact Nat.lt_trans h.1 ((List.pairwise_cons.mp ih).1 x hx)
theorem le_last {l : List Nat} {x z : Nat} (hp : (l ++ [z]).Pairwise (· < ·)) (hx : x ∈ l ++ [z]) : x ≤ z := by
  rcases List.mem_append.mp hx with q | q
  · exact Nat.le_of_lt ((List.pairwise_append.mp hp).2.2 x q z (.head _))
  · rw [List.mem_singleton.mp q]; exact Nat.le_refl _
section
variable {K : Kst} {cE cE' : List DictEntry} {cN cN' : Nat} {rV rV' : List Value} {rN rN' : Nat} {oO : Obj} {dV dV' : List Value} {dN dN' : Nat} {mO : Obj} {tV : List Value} {tN : Nat} {fV fV' : List Value} {fN fN' : Nat} {sO : Obj} {rest : List (Addr × Obj)}
theorem Kst.Ok.up (O : K.Ok) : K.all.Pairwise (· < ·) :=
  Up.pairwise ⟨O.o1, O.o2, O.o3, O.o4, O.o5, O.o6, O.o7, O.o8, O.o9, O.o10, O.o11, O.o12, O.o13, trivial⟩
theorem Kst.Ok.nodup (O : K.Ok) : K.all.Nodup := O.up.imp fun h => Nat.ne_of_lt h
theorem Kst.Ok.le_sd (O : K.Ok) {z : Nat} (h : z ∈ K.all) : z ≤ K.sd := le_last (l := [K.cd, K.c, K.bd, K.b, K.rw, K.pd, K.p, K.ow, K.od, K.sp, K.mp, K.rt, K.ft]) O.up h
theorem off_ne {d : Nat} (O : K.Ok) (hR : ∀ p ∈ rest, Off K p.1) (hm : d ∈ K.all) : ∀ p ∈ rest, p.1 ≠ d := offAll hR hm (O.le_sd hm)
theorem core_prm (K : Kst) : List.Perm [K.c, K.cd, K.b, K.bd, K.rw, K.p, K.pd, K.ow, K.od, K.sp, K.mp, K.rt, K.ft, K.sd] K.all :=
  (List.Perm.swap _ _ _).trans (.cons _ (.cons _ ((List.Perm.swap _ _ _).trans (.cons _ (.cons _ (.cons _ (List.Perm.swap _ _ _)))))))
theorem core_nd (O : K.Ok) : [K.c, K.cd, K.b, K.bd, K.rw, K.p, K.pd, K.ow, K.od, K.sp, K.mp, K.rt, K.ft, K.sd].Nodup := (core_prm K).nodup_iff.mpr O.nodup
theorem upd_cd (O : K.Ok) (hR : ∀ p ∈ rest, Off K p.1) : Upd K.cd (dictOf cE cN) (dictOf cE' cN') (coreL K cE cN rV rN oO dV dN mO tV tN fV fN sO rest) (coreL K cE' cN' rV rN oO dV dN mO tV tN fV fN sO rest) :=
  upd_of (A := [(K.c, instObj 351 K.cd)]) (B := [(K.b, instObj 87 K.bd), (K.bd, dictOf (buE K) K.bn), (K.rw, listOf rV.toArray rN), (K.p, instObj 209 K.pd), (K.pd, dictOf (poE K) K.pn), (K.ow, oO), (K.od, listOf dV.toArray dN), (K.sp, methodObj (.ref 277) (.ref K.c)), (K.mp, mO), (K.rt, listOf tV.toArray tN), (K.ft, listOf fV.toArray fN), (K.sd, sO)]) (core_nd O) (off_ne O hR (.head _))
theorem upd_rw (O : K.Ok) (hR : ∀ p ∈ rest, Off K p.1) : Upd K.rw (listOf rV.toArray rN) (listOf rV'.toArray rN') (coreL K cE cN rV rN oO dV dN mO tV tN fV fN sO rest) (coreL K cE cN rV' rN' oO dV dN mO tV tN fV fN sO rest) :=
  upd_of (A := [(K.c, instObj 351 K.cd), (K.cd, dictOf cE cN), (K.b, instObj 87 K.bd), (K.bd, dictOf (buE K) K.bn)]) (B := [(K.p, instObj 209 K.pd), (K.pd, dictOf (poE K) K.pn), (K.ow, oO), (K.od, listOf dV.toArray dN), (K.sp, methodObj (.ref 277) (.ref K.c)), (K.mp, mO), (K.rt, listOf tV.toArray tN), (K.ft, listOf fV.toArray fN), (K.sd, sO)]) (core_nd O) (off_ne O hR (.tail _ (.tail _ (.tail _ (.tail _ (.head _))))))
theorem upd_od (O : K.Ok) (hR : ∀ p ∈ rest, Off K p.1) : Upd K.od (listOf dV.toArray dN) (listOf dV'.toArray dN') (coreL K cE cN rV rN oO dV dN mO tV tN fV fN sO rest) (coreL K cE cN rV rN oO dV' dN' mO tV tN fV fN sO rest) :=
  upd_of (A := [(K.c, instObj 351 K.cd), (K.cd, dictOf cE cN), (K.b, instObj 87 K.bd), (K.bd, dictOf (buE K) K.bn), (K.rw, listOf rV.toArray rN), (K.p, instObj 209 K.pd), (K.pd, dictOf (poE K) K.pn), (K.ow, oO)]) (B := [(K.sp, methodObj (.ref 277) (.ref K.c)), (K.mp, mO), (K.rt, listOf tV.toArray tN), (K.ft, listOf fV.toArray fN), (K.sd, sO)]) (core_nd O) (off_ne O hR (.tail _ (.tail _ (.tail _ (.tail _ (.tail _ (.tail _ (.tail _ (.tail _ (.head _))))))))))
theorem upd_ft (O : K.Ok) (hR : ∀ p ∈ rest, Off K p.1) : Upd K.ft (listOf fV.toArray fN) (listOf fV'.toArray fN') (coreL K cE cN rV rN oO dV dN mO tV tN fV fN sO rest) (coreL K cE cN rV rN oO dV dN mO tV tN fV' fN' sO rest) :=
  upd_of (A := [(K.c, instObj 351 K.cd), (K.cd, dictOf cE cN), (K.b, instObj 87 K.bd), (K.bd, dictOf (buE K) K.bn), (K.rw, listOf rV.toArray rN), (K.p, instObj 209 K.pd), (K.pd, dictOf (poE K) K.pn), (K.ow, oO), (K.od, listOf dV.toArray dN), (K.sp, methodObj (.ref 277) (.ref K.c)), (K.mp, mO), (K.rt, listOf tV.toArray tN)]) (B := [(K.sd, sO)]) (core_nd O) (off_ne O hR (.tail _ (.tail _ (.tail _ (.tail _ (.tail _ (.tail _ (.tail _ (.tail _ (.tail _ (.tail _ (.tail _ (.tail _ (.head _))))))))))))))
theorem upd_ow (O : K.Ok) (hR : ∀ p ∈ rest, Off K p.1) : UpdF K.ow oO (coreL K cE cN rV rN oO dV dN mO tV tN fV fN sO rest) (fun o => coreL K cE cN rV rN o dV dN mO tV tN fV fN sO rest) :=
  updF_of (A := [(K.c, instObj 351 K.cd), (K.cd, dictOf cE cN), (K.b, instObj 87 K.bd), (K.bd, dictOf (buE K) K.bn), (K.rw, listOf rV.toArray rN), (K.p, instObj 209 K.pd), (K.pd, dictOf (poE K) K.pn)]) (B := [(K.od, listOf dV.toArray dN), (K.sp, methodObj (.ref 277) (.ref K.c)), (K.mp, mO), (K.rt, listOf tV.toArray tN), (K.ft, listOf fV.toArray fN), (K.sd, sO)]) (core_nd O) (off_ne O hR (.tail _ (.tail _ (.tail _ (.tail _ (.tail _ (.tail _ (.tail _ (.head _)))))))))
theorem upd_mp (O : K.Ok) (hR : ∀ p ∈ rest, Off K p.1) : UpdF K.mp mO (coreL K cE cN rV rN oO dV dN mO tV tN fV fN sO rest) (fun o => coreL K cE cN rV rN oO dV dN o tV tN fV fN sO rest) :=
  updF_of (A := [(K.c, instObj 351 K.cd), (K.cd, dictOf cE cN), (K.b, instObj 87 K.bd), (K.bd, dictOf (buE K) K.bn), (K.rw, listOf rV.toArray rN), (K.p, instObj 209 K.pd), (K.pd, dictOf (poE K) K.pn), (K.ow, oO), (K.od, listOf dV.toArray dN), (K.sp, methodObj (.ref 277) (.ref K.c))]) (B := [(K.rt, listOf tV.toArray tN), (K.ft, listOf fV.toArray fN), (K.sd, sO)]) (core_nd O) (off_ne O hR (.tail _ (.tail _ (.tail _ (.tail _ (.tail _ (.tail _ (.tail _ (.tail _ (.tail _ (.tail _ (.head _))))))))))))
theorem upd_sd (O : K.Ok) (hR : ∀ p ∈ rest, Off K p.1) : UpdF K.sd sO (coreL K cE cN rV rN oO dV dN mO tV tN fV fN sO rest) (fun o => coreL K cE cN rV rN oO dV dN mO tV tN fV fN o rest) :=
  updF_of (A := [(K.c, instObj 351 K.cd), (K.cd, dictOf cE cN), (K.b, instObj 87 K.bd), (K.bd, dictOf (buE K) K.bn), (K.rw, listOf rV.toArray rN), (K.p, instObj 209 K.pd), (K.pd, dictOf (poE K) K.pn), (K.ow, oO), (K.od, listOf dV.toArray dN), (K.sp, methodObj (.ref 277) (.ref K.c)), (K.mp, mO), (K.rt, listOf tV.toArray tN), (K.ft, listOf fV.toArray fN)]) (B := []) (core_nd O) (off_ne O hR (.tail _ (.tail _ (.tail _ (.tail _ (.tail _ (.tail _ (.tail _ (.tail _ (.tail _ (.tail _ (.tail _ (.tail _ (.tail _ (.head _)))))))))))))))
theorem upd_core {d : Addr} {rest' : List (Addr × Obj)} {o o' : Obj} (h : ∀ z ∈ K.all, z ≠ d) (U : Upd d o o' rest rest') : Upd d o o' (coreL K cE cN rV rN oO dV dN mO tV tN fV fN sO rest) (coreL K cE cN rV rN oO dV dN mO tV tN fV fN sO rest') :=
  .tail (h _ (.tail _ (.head _))) (.tail (h _ (.head _)) (.tail (h _ (.tail _ (.tail _ (.tail _ (.head _))))) (.tail (h _ (.tail _ (.tail _ (.head _)))) (.tail (h _ (.tail _ (.tail _ (.tail _ (.tail _ (.head _)))))) (.tail (h _ (.tail _ (.tail _ (.tail _ (.tail _ (.tail _ (.tail _ (.head _)))))))) (.tail (h _ (.tail _ (.tail _ (.tail _ (.tail _ (.tail _ (.head _))))))) (.tail (h _ (.tail _ (.tail _ (.tail _ (.tail _ (.tail _ (.tail _ (.tail _ (.head _))))))))) (.tail (h _ (.tail _ (.tail _ (.tail _ (.tail _ (.tail _ (.tail _ (.tail _ (.tail _ (.head _)))))))))) (.tail (h _ (.tail _ (.tail _ (.tail _ (.tail _ (.tail _ (.tail _ (.tail _ (.tail _ (.tail _ (.head _))))))))))) (.tail (h _ (.tail _ (.tail _ (.tail _ (.tail _ (.tail _ (.tail _ (.tail _ (.tail _ (.tail _ (.tail _ (.head _)))))))))))) (.tail (h _ (.tail _ (.tail _ (.tail _ (.tail _ (.tail _ (.tail _ (.tail _ (.tail _ (.tail _ (.tail _ (.tail _ (.head _))))))))))))) (.tail (h _ (.tail _ (.tail _ (.tail _ (.tail _ (.tail _ (.tail _ (.tail _ (.tail _ (.tail _ (.tail _ (.tail _ (.tail _ (.head _)))))))))))))) (.tail (h _ (.tail _ (.tail _ (.tail _ (.tail _ (.tail _ (.tail _ (.tail _ (.tail _ (.tail _ (.tail _ (.tail _ (.tail _ (.tail _ (.head _))))))))))))))) (U))))))))))))))
theorem updF_core {d : Addr} {rest' : List (Addr × Obj)} {o : Obj} {g : Obj → List (Addr × Obj)} (h : ∀ z ∈ K.all, z ≠ d) (U : UpdF d o rest g) : UpdF d o (coreL K cE cN rV rN oO dV dN mO tV tN fV fN sO rest) (fun o' => coreL K cE cN rV rN oO dV dN mO tV tN fV fN sO (g o')) :=
  .tail (h _ (.tail _ (.head _))) (.tail (h _ (.head _)) (.tail (h _ (.tail _ (.tail _ (.tail _ (.head _))))) (.tail (h _ (.tail _ (.tail _ (.head _)))) (.tail (h _ (.tail _ (.tail _ (.tail _ (.tail _ (.head _)))))) (.tail (h _ (.tail _ (.tail _ (.tail _ (.tail _ (.tail _ (.tail _ (.head _)))))))) (.tail (h _ (.tail _ (.tail _ (.tail _ (.tail _ (.tail _ (.head _))))))) (.tail (h _ (.tail _ (.tail _ (.tail _ (.tail _ (.tail _ (.tail _ (.tail _ (.head _))))))))) (.tail (h _ (.tail _ (.tail _ (.tail _ (.tail _ (.tail _ (.tail _ (.tail _ (.tail _ (.head _)))))))))) (.tail (h _ (.tail _ (.tail _ (.tail _ (.tail _ (.tail _ (.tail _ (.tail _ (.tail _ (.tail _ (.head _))))))))))) (.tail (h _ (.tail _ (.tail _ (.tail _ (.tail _ (.tail _ (.tail _ (.tail _ (.tail _ (.tail _ (.tail _ (.head _)))))))))))) (.tail (h _ (.tail _ (.tail _ (.tail _ (.tail _ (.tail _ (.tail _ (.tail _ (.tail _ (.tail _ (.tail _ (.tail _ (.head _))))))))))))) (.tail (h _ (.tail _ (.tail _ (.tail _ (.tail _ (.tail _ (.tail _ (.tail _ (.tail _ (.tail _ (.tail _ (.tail _ (.tail _ (.head _)))))))))))))) (.tail (h _ (.tail _ (.tail _ (.tail _ (.tail _ (.tail _ (.tail _ (.tail _ (.tail _ (.tail _ (.tail _ (.tail _ (.tail _ (.tail _ (.head _))))))))))))))) (U))))))))))))))
theorem off_all {a : Nat} (O : K.Ok) (h : Off K a) : ∀ z ∈ K.all, z ≠ a := fun z hz e => by
  rcases h with h | h
  · exact h z hz e.symm
  · have := O.le_sd hz; omega
theorem ow_all : K.ow ∈ K.all := .tail _ (.tail _ (.tail _ (.tail _ (.tail _ (.tail _ (.tail _ (.head _)))))))
theorem Kst.Ok.big_all (O : K.Ok) {z : Nat} (h : z ∈ K.all) : 100 < z := by
  have hp := O.up
  rcases List.mem_cons.mp h with rfl | h
  · exact O.big
  · exact Nat.lt_trans O.big ((List.pairwise_cons.mp hp).1 z h)
theorem nm_all (O : K.Ok) {z : Nat} (h : z ∈ K.all) : (z == sysModules) = false := notmod (Nat.lt_trans (by decide) (O.big_all h))
theorem nm_ow (O : K.Ok) : (K.ow == sysModules) = false := nm_all O ow_all
theorem nm_mp (O : K.Ok) : (K.mp == sysModules) = false := nm_all O (.tail _ (.tail _ (.tail _ (.tail _ (.tail _ (.tail _ (.tail _ (.tail _ (.tail _ (.tail _ (.head _)))))))))))
theorem nm_sd (O : K.Ok) : (K.sd == sysModules) = false := nm_all O (.tail _ (.tail _ (.tail _ (.tail _ (.tail _ (.tail _ (.tail _ (.tail _ (.tail _ (.tail _ (.tail _ (.tail _ (.tail _ (.head _))))))))))))))
end
end
end
section
open PySem PySem.W PySem.Calls PyProof.Rows
section
def bodyOf : Stmt → List Stmt
  | .FunctionDef _ _ b _ _ _ _ _ _ _ => b
  | .For _ _ b _ _ => b
  | .If _ b _ _ => b
  | _ => []
def elseOf : Stmt → List Stmt
  | .If _ _ b _ => b
  | _ => []
def iterOf : Stmt → Expr
  | .For _ i _ _ _ => i
  | .If t _ _ _ => t
  | _ => .Constant .none 0 ⟨0, 0, 0, 0⟩
def scopeOf : Stmt → Scope
  | .FunctionDef _ _ _ _ _ _ s _ _ _ => s
  | _ => { kind := .function, names := [], isGenerator := false, isCoroutine := false, more := [] }
def nth : List Stmt → Nat → Stmt
  | [], _ => .Pass ⟨0, 0, 0, 0⟩
  | s :: _, 0 => s
  | _ :: r, n + 1 => nth r n
def lastS : List Stmt → Stmt
  | [] => .Pass ⟨0, 0, 0, 0⟩
  | [s] => s
  | _ :: s :: r => lastS (s :: r)
def lawS : Stmt := lastS PySem.Challenge.rw_pb0351_01.row.prog.main.body
def lawB : List Stmt := bodyOf lawS
def lawSc : Scope := scopeOf lawS
def lapB : List Stmt := bodyOf (nth lawB 12)
end
end
section
open PySem PySem.W PySem.Calls PyProof.Rows
section
/-- a statement «self.key = value» in a constructor: what it leaves -/
def classB : Stmt → List Stmt
  | .ClassDef _ _ _ b _ _ _ _ _ _ _ => b
  | _ => []
/-- the body of the first def of a class, by its place in the text -/
def clsBody (k : Nat) : List Stmt := bodyOf (nth (classB (nth PySem.Challenge.rw_pb0351_01.row.prog.main.body k)) 0)
def nm9 : Value → Option Str
  | .str k _ => some k
  | _ => none
def okK (key : Str) (ks : List (Option Str)) : Bool := ks.all fun o => match o with
  | some k => !(k == key)
  | none => false
theorem nm9_some {v : Value} {k : Str} (h : nm9 v = some k) : ∃ t, v = .str k t := by
  cases v <;> simp only [nm9, Option.some.injEq, reduceCtorEq] at h
  exact ⟨_, by rw [h]⟩
theorem okK_all {key : Str} {es : List DictEntry} {ks : List (Option Str)} (K : es.map (fun e => nm9 e.key) = ks) (h : okK key ks = true) : ∀ e ∈ es, e.key.isStr key = false ∧ e.refKey = false := by
  subst K
  intro e he
  unfold okK at h
  rw [List.all_map, List.all_eq_true] at h
  have h := h e he
  simp only [Function.comp] at h
  cases hn : nm9 e.key with
  | none => rw [hn] at h; cases h
  | some k =>
    rw [hn] at h
    obtain ⟨t, ht⟩ := nm9_some hn
    obtain ⟨H, kk, v⟩ := e
    dsimp only at ht
    subst ht
    exact ⟨by simpa [Value.isStr] using h, rfl⟩
theorem okK_get {key : Str} {es : List DictEntry} (h : ∀ e ∈ es, e.key.isStr key = false ∧ e.refKey = false) : getL key es = some none := by
  unfold getL
  have h1 : es.find? (·.key.isStr key) = none := List.find?_eq_none.mpr fun e he => by rw [(h e he).1]; decide
  have h2 : es.any (·.refKey) = false := List.any_eq_false.mpr fun e he => by rw [(h e he).2]; decide
  rw [h1]
  show (if _ then _ else _) = _
  rw [h2]; rfl
theorem okK_put {key : Str} {es : List DictEntry} {H : Int} {K v : Value} (h : ∀ e ∈ es, e.key.isStr key = false ∧ e.refKey = false) : putL key H K v es = es ++ [⟨H, K, v⟩] := by
  induction es with
  | nil => rfl
  | cons e r ih =>
    unfold putL
    rw [(h e (.head _)).1, ih fun x hx => h x (.tail _ hx)]
    rfl
theorem okK_num {key : Str} {es : List DictEntry} {n : Nat} (h : ∀ e ∈ es, e.key.isStr key = false ∧ e.refKey = false) : putN key es n = n + 1 := by
  unfold putN
  have h2 : es.any (·.key.isStr key) = false := List.any_eq_false.mpr fun e he => by rw [(h e he).1]; decide
  rw [h2]; rfl
structure Lg (h₀ : Heap) (L : Nat) (m : Str → Option Value) (h : Heap) (x C d : Nat) (es : List DictEntry) (n : Nat) (R : List (Addr × Obj)) (b : Nat) (ks : List (Option Str)) : Prop where
  fF : Fr h₀ L h m
  fN : News h₀ L h ((x, instObj C d) :: (d, dictOf es n) :: R)
  xd : d < x
  fR : ∀ p ∈ R, p.1 ≠ d
  fB : ∀ p ∈ R, @LE.le Nat _ p.1 b
  xb : x ≤ b
  fb : b = x ∨ ∃ o, (b, o) ∈ R
  fK : es.map (fun e => nm9 e.key) = ks
structure CC (w : World) (C : Nat) : Prop where
  hs : findIn (hd.heap_1 w.params) (.ref C) "__setattr__" = some (some (.builtin "object.__setattr__"))
  hp : plainOver (hd.heap_1 w.params) C = true
  hh : hasDictIn (hd.heap_1 w.params) C = true
theorem mem_l3 {α : Type} {a b c : α} {r : List α} : ∀ p ∈ b :: c :: a :: r, p ∈ a :: b :: c :: r := mem_swap3 (l := [])
theorem lt_b {h₀ : Heap} {L : Nat} {m : Str → Option Value} {h : Heap} {x C d : Nat} {es : List DictEntry} {n : Nat} {R : List (Addr × Obj)} {b : Nat} {ks : List (Option Str)} {l : Nat} {o1 o2 : Obj} (G : Lg h₀ L m h x C d es n R b ks) (lo : ∀ p ∈ (x, o1) :: (d, o2) :: R, @LT.lt Nat _ p.1 l) : @LT.lt Nat _ b l := by
  rcases G.fb with e | ⟨o, e⟩
  · rw [e]; exact lo _ (.head _)
  · exact lo _ (.tail _ (.tail _ e))
/-- a new object stands on the ledger -/
theorem Lg.push {h₀ : Heap} {L : Nat} {m : Str → Option Value} {h h' : Heap} {x C d : Nat} {es : List DictEntry} {n : Nat} {R : List (Addr × Obj)} {b : Nat} {ks : List (Option Str)} {l : Nat} {o : Obj} (G : Lg h₀ L m h x C d es n R b ks) (F' : Fr h₀ L h' m) (N' : News h₀ L h' ((l, o) :: (x, instObj C d) :: (d, dictOf es n) :: R)) (lo : ∀ p ∈ (x, instObj C d) :: (d, dictOf es n) :: R, @LT.lt Nat _ p.1 l) :
    Lg h₀ L m h' x C d es n ((l, o) :: R) l ks := by
  have hx : @LT.lt Nat _ x l := lo _ (.head _)
  exact ⟨F', News.sub N' mem_l3, G.xd, List.forall_mem_cons.mpr ⟨Nat.ne_of_gt (Nat.lt_trans G.xd hx), G.fR⟩, List.forall_mem_cons.mpr ⟨Nat.le_refl _, fun p hp => Nat.le_of_lt (lo p (.tail _ (.tail _ hp)))⟩, Nat.le_of_lt hx, .inr ⟨o, .head _⟩, G.fK⟩
theorem Lg.ofN {h₀ : Heap} {L : Nat} {m : Str → Option Value} {h : Heap} {x C d : Nat} {es : List DictEntry} {n : Nat} {R : List (Addr × Obj)} {ks : List (Option Str)} {q : Nat} {o : Obj} (F : Fr h₀ L h m) (N : News h₀ L h ((q, o) :: (x, instObj C d) :: (d, dictOf es n) :: R)) (hx : d < x) (hq : x < q) (hR : ∀ p ∈ R, p.1 ≠ d) (hB : ∀ p ∈ R, @LE.le Nat _ p.1 q) (K : es.map (fun e => nm9 e.key) = ks) :
    Lg h₀ L m h x C d es n ((q, o) :: R) q ks :=
  ⟨F, News.sub N mem_l3, hx, List.forall_mem_cons.mpr ⟨Nat.ne_of_gt (Nat.lt_trans hx hq), hR⟩, List.forall_mem_cons.mpr ⟨Nat.le_refl _, hB⟩, Nat.le_of_lt hq, .inr ⟨o, .head _⟩, K⟩
abbrev Slf (w : World) (A : Around) (E : Value → Shared → Prop) (h₀ : Heap) (L : Nat) (m : Str → Option Value) (e : Env) (x : Nat) : Prop :=
  ∀ (Q : Value → Shared → Prop) (s : Shared) (p : Pos), Fr h₀ L s.heap m → Q (.ref x) s → wpAny (model pg w) A (eval (.Name (Str.ofString "self") p) e) Q E s
section
variable {w : World} {A : Around} {E : Value → Shared → Prop} {s : Shared} {h₀ : Heap} {L : Nat} {m : Str → Option Value} {e : Env} {x C d n b : Nat} {es : List DictEntry} {R : List (Addr × Obj)} {ks : List (Option Str)} {key : Str} {a1 a2 a3 a4 a5 : Pos} {Q : Flow → Shared → Prop} {hp : Heap} {tk0 : Tok}
theorem st_attr {v : Value} {Q' : Shared → Prop} (hS : Slf w A E h₀ L m e x) (X : (hd.heap_1 w.params).In h₀) (c : CC w C) (G : Lg h₀ L m hp x C d es n R b ks) (ht : takerIn (hd.heap_1 w.params) C key = some none) (hk : okK key ks = true) (hz : Nat.ble ks.length 900 = true)
    (h : ∀ h' tk es', es' = es ++ [⟨PyData.keyHash w.params key, .str key tk, v⟩] → Lg h₀ L m h' x C d es' (n + 1) R b (ks ++ [some key]) → Q' { s with heap := h', toks := tk0 + 2 }) :
    wpAny (model pg w) A (eval (.Name (Str.ofString "self") a1) e) (fun ov s₂ => wpAny (model pg w) A (setAttr ov key v) (fun _ => Q') E s₂) E { s with heap := hp, toks := tk0 } := by
  have a := okK_all G.fK hk
  have hl : es.length ≤ 900 := by
    have := congrArg List.length G.fK
    rw [List.length_map] at this
    rw [this]; exact Nat.le_of_ble_eq_true hz
  refine hS _ { s with heap := hp, toks := tk0 } a1 G.fF (set_dict G.fF X G.fN (InstAt.of_news G.fN (.head _) (.tail _ (.head _))) rfl c.hs c.hp ht c.hh (by rw [okK_get a]; rfl) (Prod.ext (okK_put a) (okK_num a)) (.tail (Nat.ne_of_gt G.xd) (.head G.fR)) (by rw [List.length_append]; exact Nat.le_trans (Nat.add_le_add_right hl 1) (by decide)) fun h' F' N' => ?_)
  exact h h' _ _ rfl ⟨F', N', G.xd, G.fR, G.fB, G.xb, G.fb, by rw [List.map_append, G.fK]; rfl⟩
theorem set_none (hS : Slf w A E h₀ L m e x) (X : (hd.heap_1 w.params).In h₀) (c : CC w C) (G : Lg h₀ L m hp x C d es n R b ks) (ht : takerIn (hd.heap_1 w.params) C key = some none) (hk : okK key ks = true) (hz : Nat.ble ks.length 900 = true)
    (h : ∀ h' tk tk' es', es' = es ++ [⟨PyData.keyHash w.params key, .str key tk, .none⟩] → Lg h₀ L m h' x C d es' (n + 1) R b (ks ++ [some key]) → Q .next { s with heap := h', toks := tk' }) :
    wpAny (model pg w) A (exec (.Assign [.Attribute (.Name (Str.ofString "self") a1) key a2] (.Constant .none 0 a3) a4) e) Q E { s with heap := hp, toks := tk0 } :=
  plainObj_wpAny_Assign_Attribute (wpAny_Constant_none (st_attr (Q' := Q .next) hS X c G ht hk hz fun h' tk es' he G' => h h' tk _ es' he G')) rfl
theorem set_int {i : Int} (hS : Slf w A E h₀ L m e x) (X : (hd.heap_1 w.params).In h₀) (c' : CC w C) (G : Lg h₀ L m hp x C d es n R b ks) (ht : takerIn (hd.heap_1 w.params) C key = some none) (hk : okK key ks = true) (hz : Nat.ble ks.length 900 = true)
    (h : ∀ h' tk ti tk' es', es' = es ++ [⟨PyData.keyHash w.params key, .str key tk, .int i ti⟩] → Lg h₀ L m h' x C d es' (n + 1) R b (ks ++ [some key]) → Q .next { s with heap := h', toks := tk' }) :
    wpAny (model pg w) A (exec (.Assign [.Attribute (.Name (Str.ofString "self") a1) key a2] (.Constant (.int i) 0 a3) a4) e) Q E { s with heap := hp, toks := tk0 } :=
  plainObj_wpAny_Assign_Attribute (wpAny_Constant_int (st_attr (Q' := Q .next) (s := s) (tk0 := tk0 + 1) hS X c' G ht hk hz fun h' tk es' he G' => h h' tk _ _ es' he G')) rfl
theorem set_neg {i : Int} (hS : Slf w A E h₀ L m e x) (X : (hd.heap_1 w.params).In h₀) (c' : CC w C) (G : Lg h₀ L m hp x C d es n R b ks) (ht : takerIn (hd.heap_1 w.params) C key = some none) (hk : okK key ks = true) (hz : Nat.ble ks.length 900 = true)
    (h : ∀ h' tk ti tk' es', es' = es ++ [⟨PyData.keyHash w.params key, .str key tk, .int (-i) ti⟩] → Lg h₀ L m h' x C d es' (n + 1) R b (ks ++ [some key]) → Q .next { s with heap := h', toks := tk' }) :
    wpAny (model pg w) A (exec (.Assign [.Attribute (.Name (Str.ofString "self") a1) key a2] (.UnaryOp .USub (.Constant (.int i) 0 a3) a5) a4) e) Q E { s with heap := hp, toks := tk0 } := by
  refine plainObj_wpAny_Assign_Attribute (UnaryOp_ (wpAny_Constant_int (PyProof.Rows.neg_int ?_))) rfl
  exact st_attr (Q' := Q .next) (s := s) (tk0 := tk0 + 1 + 1) hS X c' G ht hk hz fun h' tk es' he G' => h h' tk _ _ es' he G'
theorem set_list (hS : Slf w A E h₀ L m e x) (X : (hd.heap_1 w.params).In h₀) (c' : CC w C) (G : Lg h₀ L m hp x C d es n R b ks) (ht : takerIn (hd.heap_1 w.params) C key = some none) (hk : okK key ks = true) (hz : Nat.ble ks.length 900 = true)
    (h : ∀ l h' tk tk' es' R', es' = es ++ [⟨PyData.keyHash w.params key, .str key tk, .ref l⟩] → R' = (l, listOf #[] 0) :: R → @LT.lt Nat _ b l → Lg h₀ L m h' x C d es' (n + 1) R' l (ks ++ [some key]) → Q .next { s with heap := h', toks := tk' }) :
    wpAny (model pg w) A (exec (.Assign [.Attribute (.Name (Str.ofString "self") a1) key a2] (.List [] a3) a4) e) Q E { s with heap := hp, toks := tk0 } := by
  refine plainObj_wpAny_Assign_Attribute (List_ (args_nil (newList_K (vs := []) G.fF G.fN (fun l h' F' N' lo => ?_) (by decide)))) rfl
  exact st_attr (Q' := Q .next) (s := s) (hp := h') (tk0 := tk0) hS X c' (G.push F' N' lo) ht hk hz fun h'' tk es' he G' => h l h'' tk _ es' _ he rfl (lt_b G lo) G'
theorem set_dict0 (hS : Slf w A E h₀ L m e x) (X : (hd.heap_1 w.params).In h₀) (nl : h₀.NoLimit) (c' : CC w C) (G : Lg h₀ L m hp x C d es n R b ks) (ht : takerIn (hd.heap_1 w.params) C key = some none) (hk : okK key ks = true) (hz : Nat.ble ks.length 900 = true)
    (h : ∀ l o h' tk tk' es' R', es' = es ++ [⟨PyData.keyHash w.params key, .str key tk, .ref l⟩] → R' = (l, o) :: R → @LT.lt Nat _ b l → o.IsDictOf (intK w) [] → Lg h₀ L m h' x C d es' (n + 1) R' l (ks ++ [some key]) → Q .next { s with heap := h', toks := tk' }) :
    wpAny (model pg w) A (exec (.Assign [.Attribute (.Name (Str.ofString "self") a1) key a2] (.Dict [] [] a3) a4) e) Q E { s with heap := hp, toks := tk0 } :=
  plainObj_wpAny_Assign_Attribute (newDict_K G.fF G.fN nl fun l h' o F' N' lo _ _ _ hi _ =>
    st_attr (Q' := Q .next) (s := s) (hp := h') (tk0 := tk0) hS X c' (G.push F' N' lo) ht hk hz fun h'' tk es' he G' => h l o h'' tk _ es' _ he rfl (lt_b G lo) hi G') rfl
theorem set_name {v : Value} {y : Str} (hS : Slf w A E h₀ L m e x) (hN : ∀ (Q : Value → Shared → Prop) (s : Shared) (p : Pos), Fr h₀ L s.heap m → Q v s → wpAny (model pg w) A (eval (.Name y p) e) Q E s) (X : (hd.heap_1 w.params).In h₀) (c : CC w C) (G : Lg h₀ L m hp x C d es n R b ks) (ht : takerIn (hd.heap_1 w.params) C key = some none) (hk : okK key ks = true) (hz : Nat.ble ks.length 900 = true)
    (h : ∀ h' tk tk' es', es' = es ++ [⟨PyData.keyHash w.params key, .str key tk, v⟩] → Lg h₀ L m h' x C d es' (n + 1) R b (ks ++ [some key]) → Q .next { s with heap := h', toks := tk' }) :
    wpAny (model pg w) A (exec (.Assign [.Attribute (.Name (Str.ofString "self") a1) key a2] (.Name y a3) a4) e) Q E { s with heap := hp, toks := tk0 } :=
  plainObj_wpAny_Assign_Attribute (hN _ _ _ G.fF (st_attr (Q' := Q .next) hS X c G ht hk hz fun h' tk es' he G' => h h' tk _ es' he G')) rfl
theorem set_str {y : Str} (hS : Slf w A E h₀ L m e x) (X : (hd.heap_1 w.params).In h₀) (c' : CC w C) (G : Lg h₀ L m hp x C d es n R b ks) (ht : takerIn (hd.heap_1 w.params) C key = some none) (hk : okK key ks = true) (hz : Nat.ble ks.length 900 = true)
    (h : ∀ h' tk ti tk' es', es' = es ++ [⟨PyData.keyHash w.params key, .str key tk, .str y ti⟩] → Lg h₀ L m h' x C d es' (n + 1) R b (ks ++ [some key]) → Q .next { s with heap := h', toks := tk' }) :
    wpAny (model pg w) A (exec (.Assign [.Attribute (.Name (Str.ofString "self") a1) key a2] (.Constant (.str y) 0 a3) a4) e) Q E { s with heap := hp, toks := tk0 } :=
  plainObj_wpAny_Assign_Attribute (wpAny_Constant_str (st_attr (Q' := Q .next) (s := s) (tk0 := tk0 + 1) hS X c' G ht hk hz fun h' tk es' he G' => h h' tk _ _ es' he G')) rfl
theorem set_bool {y : Bool} (hS : Slf w A E h₀ L m e x) (X : (hd.heap_1 w.params).In h₀) (c' : CC w C) (G : Lg h₀ L m hp x C d es n R b ks) (ht : takerIn (hd.heap_1 w.params) C key = some none) (hk : okK key ks = true) (hz : Nat.ble ks.length 900 = true)
    (h : ∀ h' tk tk' es', es' = es ++ [⟨PyData.keyHash w.params key, .str key tk, .bool y⟩] → Lg h₀ L m h' x C d es' (n + 1) R b (ks ++ [some key]) → Q .next { s with heap := h', toks := tk' }) :
    wpAny (model pg w) A (exec (.Assign [.Attribute (.Name (Str.ofString "self") a1) key a2] (.Constant (.bool y) 0 a3) a4) e) Q E { s with heap := hp, toks := tk0 } :=
  plainObj_wpAny_Assign_Attribute (wpAny_Constant_bool (st_attr (Q' := Q .next) (s := s) (tk0 := tk0) hS X c' G ht hk hz fun h' tk es' he G' => h h' tk _ es' he G')) rfl
end
/-- every key is a text -/
def AllStr (es : List DictEntry) : Prop := ∀ e ∈ es, (nm9 e.key).isSome = true
theorem AllStr.of {es : List DictEntry} {ks : List (Option Str)} (K : es.map (fun e => nm9 e.key) = ks) (h : ks.all (·.isSome) = true) : AllStr es := by
  subst K
  intro e he
  rw [List.all_map, List.all_eq_true] at h
  exact h e he
theorem AllStr.get {es : List DictEntry} (h : AllStr es) (key : Str) : (getL key es).isSome = true := by
  unfold getL
  split
  · rfl
  · rw [if_neg]
    · rfl
    · rw [Bool.not_eq_true, List.any_eq_false]
      intro e he
      have := h e he
      obtain ⟨H, k, v⟩ := e
      dsimp only at this
      cases k <;> simp only [nm9, Option.isSome_none, Bool.false_eq_true] at this
      intro hr
      cases hr
theorem AllStr.put {es : List DictEntry} (h : AllStr es) {key : Str} {H : Int} {t : Tok} {v : Value} : AllStr (putL key H (.str key t) v es) := by
  induction es with
  | nil => exact fun e he => by rw [List.mem_singleton.mp he]; rfl
  | cons e r ih =>
    unfold putL
    split
    · intro q hq
      rcases List.mem_cons.mp hq with rfl | hq
      · exact h e (.head _)
      · exact h q (.tail _ hq)
    · intro q hq
      rcases List.mem_cons.mp hq with rfl | hq
      · exact h _ (.head _)
      · exact ih (fun x hx => h x (.tail _ hx)) q hq
theorem putL_len {key : Str} {H : Int} {k v : Value} : ∀ es : List DictEntry, (putL key H k v es).length ≤ es.length + 1
  | [] => Nat.le_refl _
  | e :: r => by
    unfold putL
    split
    · exact Nat.le_succ _
    · exact Nat.succ_le_succ (putL_len r)
end
end
section
open PySem PySem.W PySem.Calls PyProof.Rows PySem.Spec
section
def StepG (h₀ : Heap) (L I : Addr) (own : List (Addr × Obj)) (J : (Str → Option Value) → List (Addr × Obj) → Prop) (s₁ : Shared) (Q : Flow → Shared → Prop) (f : Flow) (s₂ : Shared) : Prop :=
  match f with
  | .ret v => Q (.ret v) s₂
  | .brk => Q .next s₂
  | _ => ∃ h' tk m' news', s₂ = { s₁ with heap := h', toks := tk } ∧ Fr h₀ L h' m' ∧ News h₀ L h' (news' ++ own) ∧ (∀ p ∈ news', p.1 ≠ I) ∧ J m' news'
theorem news_comm {h₀ h : Heap} {L : Addr} {a b : List (Addr × Obj)} (N : News h₀ L h (a ++ b)) : News h₀ L h (b ++ a) :=
  fun p hp => N p (by rcases List.mem_append.mp hp with q | q; exact List.mem_append_right _ q; exact List.mem_append_left _ q)
theorem news_left {h₀ h : Heap} {L : Addr} {a b : List (Addr × Obj)} (N : News h₀ L h (a ++ b)) : News h₀ L h a := fun p hp => N p (List.mem_append_left _ hp)
section
variable {prog : Program} {w : World} {A : Around} {E : Value → Shared → Prop} {s : Shared} {env : Env} {h₀ : Heap} {x : Str} {body : List Stmt} {Q : Flow → Shared → Prop}
theorem loopG {I : Addr} {fp : List Addr} {n : Nat} {P : Nat → Value → Prop} {St : Nat → Heap → Prop} {s₂ : Shared} {m : Str → Option Value} {news : List (Addr × Obj)} (W : Walks prog w A I fp [I] n P St) (hIf : I ∈ fp) (hlive : ∀ i h, St i h → ∃ o, h.get? I = some o) (hLf : env.locals ∉ fp) (hwr : h₀.get? I = none)
    (hnI : ∀ p ∈ news, p.1 ≠ I) (hst : St 0 s₂.heap) (F : Fr h₀ env.locals s₂.heap m) (N : News h₀ env.locals s₂.heap news) (J : Nat → (Str → Option Value) → List (Addr × Obj) → Prop) (hj : J 0 m news)
    (turn : ∀ i v m₁ news₁ h tk own, i < n → P i v → J i m₁ news₁ → (∀ p ∈ news₁, p.1 ≠ I) → (∀ p ∈ own, p.1 ∈ fp) → Fr h₀ env.locals h (fun y => if y = x then some v else m₁ y) → News h₀ env.locals h (news₁ ++ own) → (∃ o, (I, o) ∈ own) →
      wpAny (model prog w) A (execs body env) (StepG h₀ env.locals I own (J (i + 1)) { s₂ with heap := h, toks := tk } Q) E { s₂ with heap := h, toks := tk })
    (done : ∀ m₁ news₁ h tk, J n m₁ news₁ → Fr h₀ env.locals h m₁ → News h₀ env.locals h news₁ → Q .next { s₂ with heap := h, toks := tk }) :
    LoopAtV prog w A h₀ env x body Q E (.ref I) s₂ := by
  refine ⟨I, fp, [I], n, P, St, m, news, J, rfl, W, hLf, ?_, ?_, hst, F, N, hj, ?_, ?_⟩
  · intro b hb; rw [List.mem_singleton.mp hb]; exact hwr
  · intro p hp hb; exact hnI p hp (List.mem_singleton.mp hb)
  · rintro i v m₁ news₁ s₁ own ⟨h, tk, rfl⟩ hi hP hJ hoff hown _ hall hst₁ F₁ N₁
    obtain ⟨oI, hoI⟩ := hlive _ _ hst₁
    refine wpAny_mono (turn i v m₁ news₁ h tk own hi hP hJ (fun p hp e => hoff p hp (by rw [e]; exact List.mem_singleton.mpr rfl)) hown F₁ (news_comm N₁) ⟨oI, hall I hIf hwr oI hoI⟩) (fun f s₃ p => ?_) fun _ _ e => e
    have fin : (∃ h' tk' m' news', s₃ = { ({ s₂ with heap := h, toks := tk } : Shared) with heap := h', toks := tk' } ∧ Fr h₀ env.locals h' m' ∧ News h₀ env.locals h' (news' ++ own) ∧ (∀ p ∈ news', p.1 ≠ I) ∧ J (i + 1) m' news') →
        LoopStepU h₀ env.locals [I] own (J (i + 1)) { s₂ with heap := h, toks := tk } .next s₃ := by
      rintro ⟨h', tk', m', news', e, F', N', hne, hJ'⟩
      exact ⟨rfl, h', tk', m', news', e, F', news_comm N', fun p hp hb => hne p hp (List.mem_singleton.mp hb), hJ'⟩
    cases f with
    | ret v => exact .ret p
    | brk => exact .brk p
    | next => exact .next (fin p)
    | cont => exact .cont (fin p)
  · intro h' tk m' news' F' N' _ hJ
    exact done m' news' h' tk hJ F' N'
theorem news_lt {h₀ h : Heap} {L : Addr} {news : List (Addr × Obj)} (N : News h₀ L h news) : ∀ p ∈ news, @LT.lt Nat _ p.1 h.objs.size := fun p hp => Heap.lt_size (N p hp).1
theorem iter_list {l : Addr} {vs : List Value} {n : Nat} {m₀ : Str → Option Value} {news : List (Addr × Obj)} (J : Nat → (Str → Option Value) → List (Addr × Obj) → Prop)
    (hh : A.handled = none) (hl : (l, listOf vs.toArray n) ∈ news) (F : Fr h₀ env.locals s.heap m₀) (N : News h₀ env.locals s.heap news) (hj : J 0 m₀ news)
    (turn : ∀ i v m₁ news₁ h tk own (I : Nat), vs[i]? = some v → J i m₁ news₁ → (∀ p ∈ news, @LT.lt Nat _ p.1 I) → (∀ p ∈ news₁, p.1 ≠ I) → (∀ p ∈ own, p.1 = I ∨ p.1 = l) → Fr h₀ env.locals h (fun y => if y = x then some v else m₁ y) → News h₀ env.locals h (news₁ ++ own) → (∃ o, (I, o) ∈ own) →
      wpAny (model prog w) A (execs body env) (StepG h₀ env.locals I own (J (i + 1)) { s with heap := h, toks := tk } Q) E { s with heap := h, toks := tk })
    (done : ∀ m₁ news₁ h tk, J vs.length m₁ news₁ → Fr h₀ env.locals h m₁ → News h₀ env.locals h news₁ → Q .next { s with heap := h, toks := tk }) :
    wpAny (model prog w) A (pyIter (.ref l)) (fun it s₂ => LoopAtV prog w A h₀ env x body Q E it s₂) E s := by
  have hgl := N _ hl
  have hls : s.heap.IsList l vs.toArray := ⟨_, hgl.1, rfl, n, rfl⟩
  have hlt : l < s.heap.objs.size := Heap.lt_size hgl.1
  refine wpAny_pyIter_list hls ?_
  have W := Walks.list (prog := prog) (w := w) hh s.heap.objs.size l (Nat.ne_of_lt hlt) vs.toArray
  rw [List.size_toArray] at W
  refine loopG W (by simp) (fun i h st => by obtain ⟨⟨o, ho, _⟩, _⟩ := st; exact ⟨o, ho⟩) ?_ (next_is_new F) (fun p hp => Nat.ne_of_lt (news_lt N p hp)) ⟨⟨_, Heap.get?_push_size _ rfl, rfl, rfl⟩, hls.at fun o e => Heap.get?_push_of_some _ e⟩ (F.push _) (fun p hp => ⟨Heap.get?_push_of_some _ (N p hp).1, (N p hp).2⟩) J hj ?_ ?_
  · intro hm
    rcases List.mem_cons.mp hm with e | hm
    · exact absurd F.ns.lt (e ▸ Nat.lt_irrefl _)
    · exact hgl.2.1 (List.mem_singleton.mp hm).symm
  · intro i v m₁ news₁ h tk own hi hP hJ hne hown F₁ N₁ hio
    refine turn i v m₁ news₁ h tk own _ (by simpa using hP) hJ (news_lt N) hne (fun p hp => ?_) F₁ N₁ hio
    rcases List.mem_cons.mp (hown p hp) with e | e
    · exact .inl e
    · exact .inr (List.mem_singleton.mp e)
  · exact done
theorem iter_range {r : Addr} {a₀ b₀ : Int} {t₀ u₀ v₀ : Tok} {n : Nat} {m₀ : Str → Option Value} {news : List (Addr × Obj)} (J : Nat → (Str → Option Value) → List (Addr × Obj) → Prop)
    (hh : A.handled = none) (hr : IsRange s.heap r a₀ b₀ 1 t₀ u₀ v₀) (hsmall : Builtin.Range.small a₀ b₀ 1 = true) (hn : Builtin.Range.rangeSize a₀ b₀ 1 = (n : Int)) (F : Fr h₀ env.locals s.heap m₀) (N : News h₀ env.locals s.heap news) (hj : J 0 m₀ news)
    (turn : ∀ i t m₁ news₁ h tk own (I : Nat), i < n → J i m₁ news₁ → (∀ p ∈ news, @LT.lt Nat _ p.1 I) → (∀ p ∈ news₁, p.1 ≠ I) → (∀ p ∈ own, p.1 = I) → Fr h₀ env.locals h (fun y => if y = x then some (.int (a₀ + i) t) else m₁ y) → News h₀ env.locals h (news₁ ++ own) → (∃ o, (I, o) ∈ own) →
      wpAny (model prog w) A (execs body env) (StepG h₀ env.locals I own (J (i + 1)) { s with heap := h, toks := tk } Q) E { s with heap := h, toks := tk })
    (done : ∀ m₁ news₁ h tk, J n m₁ news₁ → Fr h₀ env.locals h m₁ → News h₀ env.locals h news₁ → Q .next { s with heap := h, toks := tk }) :
    wpAny (model prog w) A (pyIter (.ref r)) (fun it s₂ => LoopAtV prog w A h₀ env x body Q E it s₂) E s := by
  refine wpAny_pyIter_range hr hsmall ?_
  have W := Walks.range (prog := prog) (w := w) hh s.heap.objs.size a₀ 1 n
  refine loopG W (by simp) (fun i h st => ⟨_, st⟩) ?_ (next_is_new F) (fun p hp => Nat.ne_of_lt (news_lt N p hp)) (by show IsRangeIter _ _ _ _ _; rw [hn]; simpa using Heap.get?_push_size _ rfl) (F.push _) (fun p hp => ⟨Heap.get?_push_of_some _ (N p hp).1, (N p hp).2⟩) J hj ?_ ?_
  · intro hm
    exact absurd F.ns.lt ((List.mem_singleton.mp hm) ▸ Nat.lt_irrefl _)
  · rintro i v m₁ news₁ h tk own hi ⟨t, rfl⟩ hJ hne hown F₁ N₁ hio
    rw [show a₀ + (i : Int) * 1 = a₀ + i by omega] at F₁
    exact turn i t m₁ news₁ h tk own _ hi hJ (news_lt N) hne (fun p hp => List.mem_singleton.mp (hown p hp)) F₁ N₁ hio
  · exact done
theorem iter_dict {d : Addr} {o : Obj} {kvs : List (Int × Value)} {m₀ : Str → Option Value} {news : List (Addr × Obj)} (J : Nat → (Str → Option Value) → List (Addr × Obj) → Prop)
    (hh : A.handled = none) (lo : (d == sysModules) = false) (hl : (d, o) ∈ news) (hd : o.IsDictOf (intKind prog w) kvs) (F : Fr h₀ env.locals s.heap m₀) (N : News h₀ env.locals s.heap news) (hj : J 0 m₀ news)
    (turn : ∀ i k v t m₁ news₁ h tk own (I : Nat), kvs[i]? = some (k, v) → J i m₁ news₁ → (∀ p ∈ news, @LT.lt Nat _ p.1 I) → (∀ p ∈ news₁, p.1 ≠ I) → (∀ p ∈ own, p.1 = I ∨ p.1 = d) → Fr h₀ env.locals h (fun y => if y = x then some (.int k t) else m₁ y) → News h₀ env.locals h (news₁ ++ own) → (∃ o, (I, o) ∈ own) →
      wpAny (model prog w) A (execs body env) (StepG h₀ env.locals I own (J (i + 1)) { s with heap := h, toks := tk } Q) E { s with heap := h, toks := tk })
    (done : ∀ m₁ news₁ h tk, J kvs.length m₁ news₁ → Fr h₀ env.locals h m₁ → News h₀ env.locals h news₁ → Q .next { s with heap := h, toks := tk }) :
    wpAny (model prog w) A (pyIter (.ref d)) (fun it s₂ => LoopAtV prog w A h₀ env x body Q E it s₂) E s := by
  have hgl := N _ hl
  have hlt : d < s.heap.objs.size := Heap.lt_size hgl.1
  obtain ⟨ep, ha⟩ := KdkAt.of hd
  refine wpAny_pyIter_dict lo (ha.dictAt hgl.1) ?_
  have W := Walks.dictKeys (prog := prog) (w := w) (knd := intKind prog w) hh s.heap.objs.size d (Nat.ne_of_lt hlt) kvs ep
  refine loopG W (by simp) (fun i h st => by obtain ⟨⟨o, ho, _⟩, _⟩ := st; exact ⟨o, ho⟩) ?_ (next_is_new F) (fun p hp => Nat.ne_of_lt (news_lt N p hp)) ⟨⟨_, Heap.get?_push_size _ rfl, rfl, rfl⟩, (ha.dictAt hgl.1).at' fun o e => Heap.get?_push_of_some _ e⟩ (F.push _) (fun p hp => ⟨Heap.get?_push_of_some _ (N p hp).1, (N p hp).2⟩) J hj ?_ ?_
  · intro hm
    rcases List.mem_cons.mp hm with e | hm
    · exact absurd F.ns.lt (e ▸ Nat.lt_irrefl _)
    · exact hgl.2.1 (List.mem_singleton.mp hm).symm
  · rintro i v m₁ news₁ h tk own hi ⟨k, y, hk, hkey⟩ hJ hne hown F₁ N₁ hio
    obtain ⟨t, rfl⟩ := PySem.Value.isInt_shape hkey
    refine turn i k y t m₁ news₁ h tk own _ hk hJ (news_lt N) hne (fun p hp => ?_) F₁ N₁ hio
    rcases List.mem_cons.mp (hown p hp) with e | e
    · exact .inl e
    · exact .inr (List.mem_singleton.mp e)
  · exact done
/-- the turn stores no name but the loop's own -/
def StepH (h₀ : Heap) (L I : Addr) (x : Str) (m₀ : Str → Option Value) (own : List (Addr × Obj)) (J : List (Addr × Obj) → Prop) (s₁ : Shared) (Q : Flow → Shared → Prop) (f : Flow) (s₂ : Shared) : Prop :=
  match f with
  | .ret v => Q (.ret v) s₂
  | .brk => Q .next s₂
  | _ => ∃ h' tk m' news', s₂ = { s₁ with heap := h', toks := tk } ∧ Fr h₀ L h' m' ∧ News h₀ L h' (news' ++ own) ∧ (∀ p ∈ news', p.1 ≠ I) ∧ (∀ z, z ≠ x → m' z = m₀ z) ∧ J news'
theorem StepH.toG {L I : Addr} {m₀ : Str → Option Value} {own : List (Addr × Obj)} {J : List (Addr × Obj) → Prop} {s₁ s₂ : Shared} {f : Flow} (h : StepH h₀ L I x m₀ own J s₁ Q f s₂) :
    StepG h₀ L I own (fun m' nw => (∀ z, z ≠ x → m' z = m₀ z) ∧ J nw) s₁ Q f s₂ := by
  cases f <;> exact h
theorem upd_eq {m₁ m₀ : Str → Option Value} {v : Value} (hm : ∀ z, z ≠ x → m₁ z = m₀ z) : (fun z => if z = x then some v else m₁ z) = fun z => if z = x then some v else m₀ z := by
  funext z
  by_cases h1 : z = x
  · simp [h1]
  · simp only [if_neg h1]; exact hm z h1
theorem upd_out {m₁ m₀ : Str → Option Value} (hm : ∀ z, z ≠ x → m₁ z = m₀ z) : m₁ = fun z => if z = x then m₁ z else m₀ z := by
  funext z
  by_cases h1 : z = x
  · simp [h1]
  · simp only [if_neg h1]; exact hm z h1
theorem iter_range0 {r : Addr} {a₀ b₀ : Int} {t₀ u₀ v₀ : Tok} {n : Nat} {m₀ : Str → Option Value} {news : List (Addr × Obj)} (J : Nat → List (Addr × Obj) → Prop)
    (hh : A.handled = none) (hr : IsRange s.heap r a₀ b₀ 1 t₀ u₀ v₀) (hsmall : Builtin.Range.small a₀ b₀ 1 = true) (hn : Builtin.Range.rangeSize a₀ b₀ 1 = (n : Int)) (F : Fr h₀ env.locals s.heap m₀) (N : News h₀ env.locals s.heap news) (hj : J 0 news)
    (turn : ∀ i t news₁ h tk own (I : Nat), i < n → J i news₁ → (∀ p ∈ news, @LT.lt Nat _ p.1 I) → (∀ p ∈ news₁, p.1 ≠ I) → (∀ p ∈ own, p.1 = I) → Fr h₀ env.locals h (fun y => if y = x then some (.int (a₀ + i) t) else m₀ y) → News h₀ env.locals h (news₁ ++ own) → (∃ o, (I, o) ∈ own) →
      wpAny (model prog w) A (execs body env) (StepH h₀ env.locals I x m₀ own (J (i + 1)) { s with heap := h, toks := tk } Q) E { s with heap := h, toks := tk })
    (done : ∀ (u : Str → Option Value) news₁ h tk, J n news₁ → Fr h₀ env.locals h (fun y => if y = x then u y else m₀ y) → News h₀ env.locals h news₁ → Q .next { s with heap := h, toks := tk }) :
    wpAny (model prog w) A (pyIter (.ref r)) (fun it s₂ => LoopAtV prog w A h₀ env x body Q E it s₂) E s := by
  refine iter_range (n := n) (fun i m nw => (∀ z, z ≠ x → m z = m₀ z) ∧ J i nw) hh hr hsmall hn F N ⟨fun _ _ => rfl, hj⟩ ?_ ?_
  · rintro i t m₁ news₁ h tk own I hi ⟨hm, hJ⟩ h1 h2 h3 F₁ N₁ hio
    rw [upd_eq hm] at F₁
    exact wpAny_mono (turn i t news₁ h tk own I hi hJ h1 h2 h3 F₁ N₁ hio) (fun _ _ q => q.toG) fun _ _ e => e
  · rintro m₁ news₁ h tk ⟨hm, hJ⟩ F₁ N₁
    rw [upd_out hm] at F₁
    exact done m₁ news₁ h tk hJ F₁ N₁
theorem iter_list0 {l : Addr} {vs : List Value} {n : Nat} {m₀ : Str → Option Value} {news : List (Addr × Obj)} (J : Nat → List (Addr × Obj) → Prop)
    (hh : A.handled = none) (hl : (l, listOf vs.toArray n) ∈ news) (F : Fr h₀ env.locals s.heap m₀) (N : News h₀ env.locals s.heap news) (hj : J 0 news)
    (turn : ∀ i v news₁ h tk own (I : Nat), vs[i]? = some v → J i news₁ → (∀ p ∈ news, @LT.lt Nat _ p.1 I) → (∀ p ∈ news₁, p.1 ≠ I) → (∀ p ∈ own, p.1 = I ∨ p.1 = l) → Fr h₀ env.locals h (fun y => if y = x then some v else m₀ y) → News h₀ env.locals h (news₁ ++ own) → (∃ o, (I, o) ∈ own) →
      wpAny (model prog w) A (execs body env) (StepH h₀ env.locals I x m₀ own (J (i + 1)) { s with heap := h, toks := tk } Q) E { s with heap := h, toks := tk })
    (done : ∀ (u : Str → Option Value) news₁ h tk, J vs.length news₁ → Fr h₀ env.locals h (fun y => if y = x then u y else m₀ y) → News h₀ env.locals h news₁ → Q .next { s with heap := h, toks := tk }) :
    wpAny (model prog w) A (pyIter (.ref l)) (fun it s₂ => LoopAtV prog w A h₀ env x body Q E it s₂) E s := by
  refine iter_list (fun i m nw => (∀ z, z ≠ x → m z = m₀ z) ∧ J i nw) hh hl F N ⟨fun _ _ => rfl, hj⟩ ?_ ?_
  · rintro i v m₁ news₁ h tk own I hi ⟨hm, hJ⟩ h1 h2 h3 F₁ N₁ hio
    rw [upd_eq hm] at F₁
    exact wpAny_mono (turn i v news₁ h tk own I hi hJ h1 h2 h3 F₁ N₁ hio) (fun _ _ q => q.toG) fun _ _ e => e
  · rintro m₁ news₁ h tk ⟨hm, hJ⟩ F₁ N₁
    rw [upd_out hm] at F₁
    exact done m₁ news₁ h tk hJ F₁ N₁
theorem iter_dict0 {d : Addr} {o : Obj} {kvs : List (Int × Value)} {m₀ : Str → Option Value} {news : List (Addr × Obj)} (J : Nat → List (Addr × Obj) → Prop)
    (hh : A.handled = none) (lo : (d == sysModules) = false) (hl : (d, o) ∈ news) (hd : o.IsDictOf (intKind prog w) kvs) (F : Fr h₀ env.locals s.heap m₀) (N : News h₀ env.locals s.heap news) (hj : J 0 news)
    (turn : ∀ i k v t news₁ h tk own (I : Nat), kvs[i]? = some (k, v) → J i news₁ → (∀ p ∈ news, @LT.lt Nat _ p.1 I) → (∀ p ∈ news₁, p.1 ≠ I) → (∀ p ∈ own, p.1 = I ∨ p.1 = d) → Fr h₀ env.locals h (fun y => if y = x then some (.int k t) else m₀ y) → News h₀ env.locals h (news₁ ++ own) → (∃ o, (I, o) ∈ own) →
      wpAny (model prog w) A (execs body env) (StepH h₀ env.locals I x m₀ own (J (i + 1)) { s with heap := h, toks := tk } Q) E { s with heap := h, toks := tk })
    (done : ∀ (u : Str → Option Value) news₁ h tk, J kvs.length news₁ → Fr h₀ env.locals h (fun y => if y = x then u y else m₀ y) → News h₀ env.locals h news₁ → Q .next { s with heap := h, toks := tk }) :
    wpAny (model prog w) A (pyIter (.ref d)) (fun it s₂ => LoopAtV prog w A h₀ env x body Q E it s₂) E s := by
  refine iter_dict (fun i m nw => (∀ z, z ≠ x → m z = m₀ z) ∧ J i nw) hh lo hl hd F N ⟨fun _ _ => rfl, hj⟩ ?_ ?_
  · rintro i k v t m₁ news₁ h tk own I hi ⟨hm, hJ⟩ h1 h2 h3 F₁ N₁ hio
    rw [upd_eq hm] at F₁
    exact wpAny_mono (turn i k v t news₁ h tk own I hi hJ h1 h2 h3 F₁ N₁ hio) (fun _ _ q => q.toG) fun _ _ e => e
  · rintro m₁ news₁ h tk ⟨hm, hJ⟩ F₁ N₁
    rw [upd_out hm] at F₁
    exact done m₁ news₁ h tk hJ F₁ N₁
def ovr (ns : List Str) (u m₀ : Str → Option Value) : Str → Option Value := fun y => if ns.contains y = true then u y else m₀ y
theorem ovr_eq {ns : List Str} {m₁ m₀ : Str → Option Value} (h : ∀ z, ns.contains z = false → m₁ z = m₀ z) : m₁ = ovr ns m₁ m₀ := by
  funext z
  unfold ovr
  split
  · rfl
  · rename_i q; exact h z (by simpa using q)
/-- a loop over a list of the ledger whose target is a tuple -/
theorem iter_listT {elts : List Expr} {k : Nat} {pos : Pos} {l : Addr} {vs : List Value} {n : Nat} {m₀ : Str → Option Value} {news : List (Addr × Obj)} (ns : List Str) (J : Nat → List (Addr × Obj) → Prop)
    (hh : A.handled = none) (hl : (l, listOf vs.toArray n) ∈ news) (F : Fr h₀ env.locals s.heap m₀) (N : News h₀ env.locals s.heap news) (hj : J 0 news)
    (turn : ∀ i v (u : Str → Option Value) news₁ h tk own (I : Nat), vs[i]? = some v → J i news₁ → (∀ p ∈ news, @LT.lt Nat _ p.1 I) → (∀ p ∈ news₁, p.1 ≠ I) → (∀ p ∈ own, p.1 = I ∨ p.1 = l) → Fr h₀ env.locals h (ovr ns u m₀) → News h₀ env.locals h (news₁ ++ own) → (∃ o, (I, o) ∈ own) →
      wpAny (model prog w) A (assign (.Tuple elts k pos) env v) (fun _ s₃ => wpAny (model prog w) A (execs body env) (StepG h₀ env.locals I own (fun m' nw => (∀ z, ns.contains z = false → m' z = m₀ z) ∧ J (i + 1) nw) { s with heap := h, toks := tk } Q) E s₃) E { s with heap := h, toks := tk })
    (done : ∀ (u : Str → Option Value) news₁ h tk, J vs.length news₁ → Fr h₀ env.locals h (ovr ns u m₀) → News h₀ env.locals h news₁ → Q .next { s with heap := h, toks := tk }) :
    wpAny (model prog w) A (pyIter (.ref l)) (fun it s₂ => TurnsAt prog w A h₀ env (.Tuple elts k pos) body Q E it s₂) E s := by
  have hgl := N _ hl
  have hls : s.heap.IsList l vs.toArray := ⟨_, hgl.1, rfl, n, rfl⟩
  have hlt : l < s.heap.objs.size := Heap.lt_size hgl.1
  refine wpAny_pyIter_list hls ?_
  have W := Walks.list (prog := prog) (w := w) hh s.heap.objs.size l (Nat.ne_of_lt hlt) vs.toArray
  rw [List.size_toArray] at W
  have WT := KTurns.ofWalks (target := .Tuple elts k pos) W (fun i v s₁ Q₁ E₁ st hQ => by
    cases v with
    | ref a => exact wpAny_letOwnedTupleGo_listiter st.1 hQ
    | _ => exact wpAny_pure hQ)
  have hlI : env.locals ∉ [s.heap.objs.size, l] := by
    intro hm
    rcases List.mem_cons.mp hm with e | hm
    · exact absurd F.ns.lt (e ▸ Nat.lt_irrefl _)
    · exact hgl.2.1 (List.mem_singleton.mp hm).symm
  refine ⟨_, _, _, _, _, _, _, m₀, news, (fun i m nw => (∀ z, ns.contains z = false → m z = m₀ z) ∧ J i nw), rfl, WT, hlI, ?_, ?_, ⟨⟨_, Heap.get?_push_size _ rfl, rfl, rfl⟩, hls.at fun o e => Heap.get?_push_of_some _ e⟩, F.push _, (fun p hp => ⟨Heap.get?_push_of_some _ (N p hp).1, (N p hp).2⟩), ⟨fun _ _ => rfl, hj⟩, ?_, ?_⟩
  · intro b hb; rw [List.mem_singleton.mp hb]; exact next_is_new F
  · intro p hp hb; exact Nat.ne_of_lt (news_lt N p hp) (List.mem_singleton.mp hb)
  · rintro i v m₁ news₁ h₁ tk₁ own hi hP ⟨hm, hJ⟩ hoff hown _ hall hst₁ F₁ N₁
    obtain ⟨⟨oI, hoI, _⟩, _⟩ := hst₁
    rw [ovr_eq hm] at F₁
    refine wpAny_mono (turn i v m₁ news₁ h₁ tk₁ own _ (by simpa using hP) hJ (news_lt N) (fun p hp e => hoff p hp (by rw [e]; exact List.mem_singleton.mpr rfl)) (fun p hp => ?_) F₁ (news_comm N₁) ⟨oI, hall _ (by simp) (next_is_new F) oI hoI⟩) (fun _ s₃ g => wpAny_mono g (fun f s₄ q => ?_) fun _ _ e => e) fun _ _ e => e
    · rcases List.mem_cons.mp (hown p hp) with e | e
      · exact .inl e
      · exact .inr (List.mem_singleton.mp e)
    · have fin : (∃ h' tk' m' news', s₄ = { ({ s with heap := h₁, toks := tk₁ } : Shared) with heap := h', toks := tk' } ∧ Fr h₀ env.locals h' m' ∧ News h₀ env.locals h' (news' ++ own) ∧ (∀ p ∈ news', p.1 ≠ s.heap.objs.size) ∧ ((∀ z, ns.contains z = false → m' z = m₀ z) ∧ J (i + 1) news')) →
          LoopStepU h₀ env.locals [s.heap.objs.size] own (fun m nw => (∀ z, ns.contains z = false → m z = m₀ z) ∧ J (i + 1) nw) { s with heap := h₁, toks := tk₁ } .next s₄ := by
        rintro ⟨h', tk', m', news', e, F', N', hne, hJ'⟩
        exact ⟨rfl, h', tk', m', news', e, F', news_comm N', fun p hp hb => hne p hp (List.mem_singleton.mp hb), hJ'⟩
      cases f with
      | ret v => exact .ret q
      | brk => exact .brk q
      | next => exact .next (fin q)
      | cont => exact .cont (fin q)
  · rintro h' tk m' news' F' N' _ ⟨hm, hJ⟩
    rw [ovr_eq hm] at F'
    exact done m' news' h' tk hJ F' N'
theorem iter_listN {l : Addr} {vs : List Value} {n : Nat} {m₀ : Str → Option Value} {news : List (Addr × Obj)} (ns : List Str) (hx : ns.contains x = true) (J : Nat → (Str → Option Value) → List (Addr × Obj) → Prop)
    (hh : A.handled = none) (hl : (l, listOf vs.toArray n) ∈ news) (F : Fr h₀ env.locals s.heap m₀) (N : News h₀ env.locals s.heap news) (hj : J 0 m₀ news)
    (turn : ∀ i v (u : Str → Option Value) news₁ h tk own (I : Nat), vs[i]? = some v → J i (ovr ns u m₀) news₁ → (∀ p ∈ news, @LT.lt Nat _ p.1 I) → (∀ p ∈ news₁, p.1 ≠ I) → (∀ p ∈ own, p.1 = I ∨ p.1 = l) → Fr h₀ env.locals h (fun y => if y = x then some v else ovr ns u m₀ y) → News h₀ env.locals h (news₁ ++ own) → (∃ o, (I, o) ∈ own) →
      wpAny (model prog w) A (execs body env) (StepG h₀ env.locals I own (fun m' nw => (∀ z, ns.contains z = false → m' z = m₀ z) ∧ J (i + 1) m' nw) { s with heap := h, toks := tk } Q) E { s with heap := h, toks := tk })
    (done : ∀ (u : Str → Option Value) news₁ h tk, J vs.length (ovr ns u m₀) news₁ → Fr h₀ env.locals h (ovr ns u m₀) → News h₀ env.locals h news₁ → Q .next { s with heap := h, toks := tk }) :
    wpAny (model prog w) A (pyIter (.ref l)) (fun it s₂ => LoopAtV prog w A h₀ env x body Q E it s₂) E s := by
  refine iter_list (fun i m nw => (∀ z, ns.contains z = false → m z = m₀ z) ∧ J i m nw) hh hl F N ⟨fun _ _ => rfl, hj⟩ ?_ ?_
  · rintro i v m₁ news₁ h tk own I hi ⟨hm, hJ⟩ h1 h2 h3 F₁ N₁ hio
    rw [ovr_eq hm] at F₁ hJ
    exact turn i v m₁ news₁ h tk own I hi hJ h1 h2 h3 F₁ N₁ hio
  · rintro m₁ news₁ h tk ⟨hm, hJ⟩ F₁ N₁
    rw [ovr_eq hm] at F₁ hJ
    exact done m₁ news₁ h tk hJ F₁ N₁
theorem iter_rangeN {r : Addr} {a₀ b₀ : Int} {t₀ u₀ v₀ : Tok} {n : Nat} {m₀ : Str → Option Value} {news : List (Addr × Obj)} (ns : List Str) (hx : ns.contains x = true) (J : Nat → (Str → Option Value) → List (Addr × Obj) → Prop)
    (hh : A.handled = none) (hr : IsRange s.heap r a₀ b₀ 1 t₀ u₀ v₀) (hsmall : Builtin.Range.small a₀ b₀ 1 = true) (hn : Builtin.Range.rangeSize a₀ b₀ 1 = (n : Int)) (F : Fr h₀ env.locals s.heap m₀) (N : News h₀ env.locals s.heap news) (hj : J 0 m₀ news)
    (turn : ∀ i t (u : Str → Option Value) news₁ h tk own (I : Nat), i < n → J i (ovr ns u m₀) news₁ → (∀ p ∈ news, @LT.lt Nat _ p.1 I) → (∀ p ∈ news₁, p.1 ≠ I) → (∀ p ∈ own, p.1 = I) → Fr h₀ env.locals h (fun y => if y = x then some (.int (a₀ + i) t) else ovr ns u m₀ y) → News h₀ env.locals h (news₁ ++ own) → (∃ o, (I, o) ∈ own) →
      wpAny (model prog w) A (execs body env) (StepG h₀ env.locals I own (fun m' nw => (∀ z, ns.contains z = false → m' z = m₀ z) ∧ J (i + 1) m' nw) { s with heap := h, toks := tk } Q) E { s with heap := h, toks := tk })
    (done : ∀ (u : Str → Option Value) news₁ h tk, J n (ovr ns u m₀) news₁ → Fr h₀ env.locals h (ovr ns u m₀) → News h₀ env.locals h news₁ → Q .next { s with heap := h, toks := tk }) :
    wpAny (model prog w) A (pyIter (.ref r)) (fun it s₂ => LoopAtV prog w A h₀ env x body Q E it s₂) E s := by
  refine iter_range (n := n) (fun i m nw => (∀ z, ns.contains z = false → m z = m₀ z) ∧ J i m nw) hh hr hsmall hn F N ⟨fun _ _ => rfl, hj⟩ ?_ ?_
  · rintro i t m₁ news₁ h tk own I hi ⟨hm, hJ⟩ h1 h2 h3 F₁ N₁ hio
    rw [ovr_eq hm] at F₁ hJ
    exact turn i t m₁ news₁ h tk own I hi hJ h1 h2 h3 F₁ N₁ hio
  · rintro m₁ news₁ h tk ⟨hm, hJ⟩ F₁ N₁
    rw [ovr_eq hm] at F₁ hJ
    exact done m₁ news₁ h tk hJ F₁ N₁
theorem map_at {m : Str → Option Value} {y : Str} {v : Value} (h : m y = some v) : m = fun z => if z = y then some v else m z := by
  funext z
  by_cases e : z = y
  · subst e; simp [h]
  · simp [e]
end
end
end
section
open PySem PySem.W PySem.Calls PyProof.Rows PySem.Spec
section
/-- an item of the run: its addresses, its cells -/
structure IR where
  x : Nat
  dx : Nat
  n : Nat
  t : Nat → Tok
  v : Nat → Value
  mode : Str
  tm : Tok
  value : Int
  tv : Tok
  reg : Int
  tr : Tok
  root : Bool
  slot : Int
  ts : Tok
  was : Str
  ta : Tok
abbrev IR.E (H : Nat → Int) (i : IR) : List DictEntry := itE H i.t i.v i.mode i.tm i.value i.tv i.reg i.tr i.root i.slot i.ts i.was i.ta
abbrev IR.o (i : IR) : Addr × Obj := (i.x, instObj 108 i.dx)
abbrev IR.d (H : Nat → Int) (i : IR) : Addr × Obj := (i.dx, dictOf (i.E H) i.n)
def itL (H : Nat → Int) : List IR → List (Addr × Obj)
  | [] => []
  | i :: r => i.o :: i.d H :: itL H r
theorem itL_o {H : Nat → Int} {its : List IR} {i : IR} (h : i ∈ its) : i.o ∈ itL H its := by
  induction its with
  | nil => cases h
  | cons a r ih =>
    rcases List.mem_cons.mp h with rfl | h
    · exact .head _
    · exact .tail _ (.tail _ (ih h))
theorem itL_d {H : Nat → Int} {its : List IR} {i : IR} (h : i ∈ its) : i.d H ∈ itL H its := by
  induction its with
  | nil => cases h
  | cons a r ih =>
    rcases List.mem_cons.mp h with rfl | h
    · exact .tail _ (.head _)
    · exact .tail _ (.tail _ (ih h))
theorem mem_itL {H : Nat → Int} {its : List IR} {p : Addr × Obj} (h : p ∈ itL H its) : ∃ i ∈ its, p = i.o ∨ p = i.d H := by
  induction its with
  | nil => cases h
  | cons a r ih =>
    rcases List.mem_cons.mp h with rfl | h
    · exact ⟨a, .head _, .inl rfl⟩
    · rcases List.mem_cons.mp h with rfl | h
      · exact ⟨a, .head _, .inr rfl⟩
      · obtain ⟨i, hi, e⟩ := ih h
        exact ⟨i, .tail _ hi, e⟩
theorem split_get {α : Type} : ∀ (xs : List α) (i : Nat) (r : α), xs[i]? = some r → xs = xs.take i ++ r :: xs.drop (i + 1)
  | [], i, r, h => by simp at h
  | x :: xs, 0, r, h => by simp at h; subst h; rfl
  | x :: xs, i + 1, r, h => by
    simp only [List.getElem?_cons_succ] at h
    simp only [List.take_succ_cons, List.drop_succ_cons, List.cons_append]
    rw [← split_get xs i r h]
theorem core_drop {h₀ h : Heap} {L : Addr} {x : Addr × Obj} {K : Kst} {cE : List DictEntry} {cN : Nat} {rV : List Value} {rN : Nat} {oO : Obj} {dV : List Value} {dN : Nat} {mO : Obj} {tV : List Value} {tN : Nat} {fV : List Value} {fN : Nat} {sO : Obj} {rest own : List (Addr × Obj)}
    (N : News h₀ L h (x :: coreL K cE cN rV rN oO dV dN mO tV tN fV fN sO (rest ++ own))) : News h₀ L h (coreL K cE cN rV rN oO dV dN mO tV tN fV fN sO rest) := by
  refine News.sub N fun p hp => .tail _ ?_
  have hp' : p ∈ coreL K cE cN rV rN oO dV dN mO tV tN fV fN sO [] ++ rest := hp
  show p ∈ coreL K cE cN rV rN oO dV dN mO tV tN fV fN sO [] ++ (rest ++ own)
  rcases List.mem_append.mp hp' with q | q
  · exact List.mem_append_left _ q
  · exact List.mem_append_right _ (List.mem_append_left _ q)
section
variable {K : Type} [DecidableEq K]
theorem vA_cons (a : K × Value) (r : List (K × Value)) (j : K) : valueAt (a :: r) j = if a.1 = j then some a.2 else valueAt r j := by
  unfold valueAt
  by_cases h : a.1 = j
  · simp [List.find?_cons, h]
  · simp [List.find?_cons, h]
theorem vA_nil (j : K) : valueAt ([] : List (K × Value)) j = none := rfl
theorem vA_map (k : K) (v : Value) (j : K) : ∀ kvs : List (K × Value), valueAt (kvs.map fun kv => if kv.1 = k then (kv.1, v) else kv) j = if j = k ∧ kvs.any (fun kv => decide (kv.1 = k)) = true then some v else valueAt kvs j
  | [] => by simp [vA_nil]
  | a :: r => by
    rw [List.map_cons, vA_cons, vA_map k v j r, List.any_cons, vA_cons]
    by_cases h1 : a.1 = k
    · by_cases h2 : j = k
      · subst h2; simp [h1]
      · have : ¬ (k = j) := fun e => h2 e.symm
        simp [h1, h2, this]
    · by_cases h2 : a.1 = j
      · have : ¬ (j = k) := fun e => h1 (h2.trans e)
        simp [h1, h2, this]
      · rw [decide_eq_false h1, Bool.false_or]; simp [h2, h1]
theorem vA_snoc (k : K) (v : Value) (j : K) : ∀ kvs : List (K × Value), valueAt (kvs ++ [(k, v)]) j = (valueAt kvs j).or (if k = j then some v else none)
  | [] => by rw [List.nil_append, vA_cons, vA_nil]; split <;> simp
  | a :: r => by
    rw [List.cons_append, vA_cons, vA_snoc k v j r, vA_cons]
    split <;> simp
theorem vA_isSome (kvs : List (K × Value)) (k : K) : (valueAt kvs k).isSome = kvs.any (fun kv => decide (kv.1 = k)) := by
  induction kvs with
  | nil => rfl
  | cons a r ih => rw [vA_cons, List.any_cons, ← ih]; by_cases h : a.1 = k <;> simp [h]
theorem vA_stored (kvs : List (K × Value)) (k j : K) (v : Value) : valueAt (stored kvs k v) j = if j = k then some v else valueAt kvs j := by
  unfold stored
  by_cases h : kvs.any (fun kv => decide (kv.1 = k)) = true
  · rw [if_pos h, vA_map]; simp [h]
  · rw [if_neg h, vA_snoc]
    by_cases hj : j = k
    · subst hj
      have : valueAt kvs j = none := by
        have := vA_isSome kvs j
        cases e : valueAt kvs j with
        | none => rfl
        | some z => rw [e] at this; exact absurd this.symm h
      simp [this]
    · have : ¬ (k = j) := fun e => hj e.symm
      simp [hj, this]
theorem vA_without (k j : K) : ∀ kvs : List (K × Value), valueAt (without kvs k) j = if j = k then none else valueAt kvs j
  | [] => by simp [without, vA_nil]
  | a :: r => by
    have ih := vA_without k j r
    unfold without at ih ⊢
    rw [List.filter_cons, vA_cons]
    by_cases h1 : a.1 = k
    · simp only [h1, ne_eq, not_true_eq_false, decide_false, Bool.false_eq_true, if_false, ih]
      by_cases h2 : j = k
      · simp [h2]
      · have : ¬ (k = j) := fun e => h2 e.symm
        simp [h2, this]
    · simp only [ne_eq, h1, not_false_eq_true, decide_true, if_true, vA_cons, ih]
      by_cases h2 : a.1 = j
      · have : ¬ (j = k) := fun e => h1 (h2.trans e)
        simp [h2, this]
      · simp [h2]
theorem stored_new {kvs : List (K × Value)} {k : K} (h : (valueAt kvs k).isSome = false) (v : Value) : stored kvs k v = kvs ++ [(k, v)] := by
  unfold stored
  rw [vA_isSome] at h
  rw [if_neg (by rw [h]; exact Bool.false_ne_true)]
theorem vA_mem {kvs : List (K × Value)} {k : K} : (valueAt kvs k).isSome = true ↔ k ∈ kvs.map (·.1) := by
  rw [vA_isSome, List.any_eq_true]
  simp
end

def refs (l : List (Int × Nat)) : List (Int × Value) := l.map fun p => (p.1, Value.ref p.2)
theorem refs_keys (l : List (Int × Nat)) : (refs l).map (·.1) = l.map (·.1) := by simp [refs]
theorem refs_len (l : List (Int × Nat)) : (refs l).length = l.length := by simp [refs]
theorem refs_app (l r : List (Int × Nat)) : refs (l ++ r) = refs l ++ refs r := by simp [refs]
theorem refs_isSome {l : List (Int × Nat)} {r : Int} : (valueAt (refs l) r).isSome = true ↔ r ∈ l.map (·.1) := by rw [vA_mem, refs_keys]
theorem refs_none {l : List (Int × Nat)} {r : Int} (h : r ∉ l.map (·.1)) : (valueAt (refs l) r).isSome = false := by
  cases e : (valueAt (refs l) r).isSome with
  | false => rfl
  | true => exact absurd (refs_isSome.mp e) h
theorem refs_at {a b : List (Int × Nat)} {r : Int} {x : Nat} (h : r ∉ a.map (·.1)) : valueAt (refs (a ++ (r, x) :: b)) r = some (.ref x) := by
  induction a with
  | nil => show valueAt ((r, Value.ref x) :: refs b) r = _; rw [vA_cons, if_pos rfl]
  | cons p a ih =>
    simp only [List.map_cons, List.mem_cons, not_or] at h
    show valueAt ((p.1, Value.ref p.2) :: refs (a ++ (r, x) :: b)) r = _
    rw [vA_cons, if_neg (fun e => h.1 e.symm)]
    exact ih h.2
theorem filter_ne_id {a : List (Int × Nat)} {r : Int} (h : r ∉ a.map (·.1)) : a.filter (fun p => decide (p.1 ≠ r)) = a := by
  rw [List.filter_eq_self]
  intro p hp
  simp only [ne_eq, decide_not, Bool.not_eq_true', decide_eq_false_iff_not]
  rintro rfl
  exact h (List.mem_map.mpr ⟨p, hp, rfl⟩)
theorem refs_without {a b : List (Int × Nat)} {r : Int} {x : Nat} (ha : r ∉ a.map (·.1)) (hb : r ∉ b.map (·.1)) : without (refs (a ++ (r, x) :: b)) r = refs (a ++ b) := by
  have e : without (refs (a ++ (r, x) :: b)) r = refs ((a ++ (r, x) :: b).filter (fun p => decide (p.1 ≠ r))) := by
    unfold without refs
    rw [List.filter_map]
    rfl
  rw [e, List.filter_append, List.filter_cons, filter_ne_id ha, filter_ne_id hb]
  simp
theorem refs_stored {l : List (Int × Nat)} {r : Int} {x : Nat} (h : r ∉ l.map (·.1)) : stored (refs l) r (.ref x) = refs (l ++ [(r, x)]) := by
  rw [stored_new (refs_none h), refs_app]; rfl
/-- the items' addresses stand apart from each other and from all else -/
structure WFL (K : Kst) (its : List IR) (ext : List (Addr × Obj)) : Prop where
  lo : ∀ i ∈ its, K.sd < i.dx ∧ i.dx < i.x
  pw : its.Pairwise (fun a b => a.x < b.dx)
  ex : ∀ p ∈ ext, Off K p.1 ∧ ∀ i ∈ its, p.1 ≠ i.x ∧ p.1 ≠ i.dx
theorem itL_app (H : Nat → Int) (A B : List IR) : itL H (A ++ B) = itL H A ++ itL H B := by
  induction A with
  | nil => rfl
  | cons a r ih => show a.o :: a.d H :: itL H (r ++ B) = _; rw [ih]; rfl
theorem WFL.apart {K : Kst} {A B : List IR} {i : IR} {ext : List (Addr × Obj)} (W : WFL K (A ++ i :: B) ext) :
    (K.sd < i.dx ∧ i.dx < i.x) ∧ ∀ p ∈ itL K.h A ++ (itL K.h B ++ ext), Off K p.1 ∧ p.1 ≠ i.x ∧ p.1 ≠ i.dx := by
  have hi := W.lo i (by simp)
  obtain ⟨_, p2, p3⟩ := List.pairwise_append.mp W.pw
  refine ⟨hi, fun p hp => ?_⟩
  rcases List.mem_append.mp hp with hp | hp
  · obtain ⟨j, hj, e⟩ := mem_itL hp
    have hlo := W.lo j (by simp [hj])
    have := p3 j hj i (.head _)
    rcases e with rfl | rfl
    · exact ⟨.inr (Nat.lt_trans hlo.1 hlo.2), neN (by show j.x ≠ i.x; omega), neN (by show j.x ≠ i.dx; omega)⟩
    · exact ⟨.inr hlo.1, neN (by show j.dx ≠ i.x; omega), neN (by show j.dx ≠ i.dx; omega)⟩
  · rcases List.mem_append.mp hp with hp | hp
    · obtain ⟨j, hj, e⟩ := mem_itL hp
      have hlo := W.lo j (by simp [hj])
      have := (List.pairwise_cons.mp p2).1 j hj
      rcases e with rfl | rfl
      · exact ⟨.inr (Nat.lt_trans hlo.1 hlo.2), neN (by show j.x ≠ i.x; omega), neN (by show j.x ≠ i.dx; omega)⟩
      · exact ⟨.inr hlo.1, neN (by show j.dx ≠ i.x; omega), neN (by show j.dx ≠ i.dx; omega)⟩
    · have := W.ex p hp
      exact ⟨this.1, this.2 i (by simp)⟩
theorem WFL.off {K : Kst} {its : List IR} {ext : List (Addr × Obj)} (W : WFL K its ext) : ∀ p ∈ itL K.h its ++ ext, Off K p.1 := by
  intro p hp
  rcases List.mem_append.mp hp with hp | hp
  · obtain ⟨j, hj, e⟩ := mem_itL hp
    have hlo := W.lo j hj
    rcases e with rfl | rfl
    · exact .inr (Nat.lt_trans hlo.1 hlo.2)
    · exact .inr hlo.1
  · exact (W.ex p hp).1
theorem core_sub {h₀ h : Heap} {L : Addr} {K : Kst} {cE : List DictEntry} {cN : Nat} {rV : List Value} {rN : Nat} {oO : Obj} {dV : List Value} {dN : Nat} {mO : Obj} {tV : List Value} {tN : Nat} {fV : List Value} {fN : Nat} {sO : Obj} {r r' : List (Addr × Obj)}
    (N : News h₀ L h (coreL K cE cN rV rN oO dV dN mO tV tN fV fN sO r)) (hs : ∀ p ∈ r', p ∈ r) : News h₀ L h (coreL K cE cN rV rN oO dV dN mO tV tN fV fN sO r') := by
  refine News.sub N fun p hp => ?_
  have hp' : p ∈ coreL K cE cN rV rN oO dV dN mO tV tN fV fN sO [] ++ r' := hp
  show p ∈ coreL K cE cN rV rN oO dV dN mO tV tN fV fN sO [] ++ r
  rcases List.mem_append.mp hp' with q | q
  · exact List.mem_append_left _ q
  · exact List.mem_append_right _ (hs p q)
theorem focus_in {H : Nat → Int} {A B : List IR} {i : IR} {ext : List (Addr × Obj)} : ∀ p ∈ i.o :: i.d H :: (itL H A ++ (itL H B ++ ext)), p ∈ itL H (A ++ i :: B) ++ ext := by
  intro p hp
  rw [itL_app]
  simp only [List.mem_cons, List.mem_append] at hp ⊢
  show (p ∈ itL H A ∨ p ∈ i.o :: i.d H :: itL H B) ∨ p ∈ ext
  simp only [List.mem_cons]
  rcases hp with h | h | h | h | h
  · exact .inl (.inr (.inl h))
  · exact .inl (.inr (.inr (.inl h)))
  · exact .inl (.inl h)
  · exact .inl (.inr (.inr (.inr h)))
  · exact .inr h
theorem focus_out {H : Nat → Int} {A B : List IR} {i : IR} {ext : List (Addr × Obj)} {q : Addr × Obj} : ∀ p ∈ itL H (A ++ i :: B) ++ (q :: ext), p ∈ i.o :: i.d H :: q :: (itL H A ++ (itL H B ++ ext)) := by
  intro p hp
  rw [itL_app] at hp
  simp only [List.mem_cons, List.mem_append] at hp ⊢
  have h' : (p ∈ itL H A ∨ p ∈ i.o :: i.d H :: itL H B) ∨ p = q ∨ p ∈ ext := hp
  simp only [List.mem_cons] at h'
  rcases h' with (h | h | h | h) | h | h
  · exact .inr (.inr (.inr (.inl h)))
  · exact .inl h
  · exact .inr (.inl h)
  · exact .inr (.inr (.inr (.inr (.inl h))))
  · exact .inr (.inr (.inl h))
  · exact .inr (.inr (.inr (.inr (.inr h))))
theorem focus_out0 {H : Nat → Int} {A B : List IR} {i : IR} {ext : List (Addr × Obj)} : ∀ p ∈ itL H (A ++ i :: B) ++ ext, p ∈ i.o :: i.d H :: (itL H A ++ (itL H B ++ ext)) := by
  intro p hp
  rw [itL_app] at hp
  simp only [List.mem_cons, List.mem_append] at hp ⊢
  have h' : (p ∈ itL H A ∨ p ∈ i.o :: i.d H :: itL H B) ∨ p ∈ ext := hp
  simp only [List.mem_cons] at h'
  rcases h' with (h | h | h | h) | h
  · exact .inr (.inr (.inl h))
  · exact .inl h
  · exact .inr (.inl h)
  · exact .inr (.inr (.inr (.inl h)))
  · exact .inr (.inr (.inr (.inr h)))
/-- an item spilled to a word -/
abbrev IR.spilt (i : IR) (sl : Int) (tm tr ts ta : Tok) : IR := { i with mode := "spill", tm := tm, reg := -1, tr := tr, slot := sl, ts := ts, was := i.mode, ta := ta }
abbrev IR.held (i : IR) (r : Int) (tr : Tok) : IR := { i with reg := r, tr := tr }
theorem WFL.same {K : Kst} {A B : List IR} {i j : IR} {ext : List (Addr × Obj)} (W : WFL K (A ++ i :: B) ext) (hx : j.x = i.x) (hd : j.dx = i.dx) : WFL K (A ++ j :: B) ext := by
  refine ⟨fun k hk => ?_, ?_, fun p hp => ⟨(W.ex p hp).1, fun k hk => ?_⟩⟩
  · rcases List.mem_append.mp hk with h | h
    · exact W.lo k (by simp [h])
    · rcases List.mem_cons.mp h with rfl | h
      · rw [hx, hd]; exact W.lo i (by simp)
      · exact W.lo k (by simp [h])
  · obtain ⟨p1, p2, p3⟩ := List.pairwise_append.mp W.pw
    obtain ⟨p4, p5⟩ := List.pairwise_cons.mp p2
    refine List.pairwise_append.mpr ⟨p1, List.pairwise_cons.mpr ⟨fun b hb => by rw [hx]; exact p4 b hb, p5⟩, fun a ha b hb => ?_⟩
    rcases List.mem_cons.mp hb with rfl | hb
    · rw [hd]; exact p3 a ha i (.head _)
    · exact p3 a ha b (.tail _ hb)
  · have W2 := (W.ex p hp).2
    rcases List.mem_append.mp hk with h | h
    · exact W2 k (by simp [h])
    · rcases List.mem_cons.mp h with rfl | h
      · rw [hx, hd]; exact W2 i (by simp)
      · exact W2 k (by simp [h])
theorem WFL.more {K : Kst} {its : List IR} {ext : List (Addr × Obj)} {q : Addr × Obj} (W : WFL K its ext) (h1 : K.sd < q.1) (h2 : ∀ i ∈ its, @LT.lt Nat _ i.x q.1) : WFL K its (q :: ext) :=
  ⟨W.lo, W.pw, fun p hp => by
    rcases List.mem_cons.mp hp with rfl | hp
    · refine ⟨.inr h1, fun i hi => ?_⟩
      have a := h2 i hi
      have b := (W.lo i hi).2
      exact ⟨neN (by omega), neN (by omega)⟩
    · exact W.ex p hp⟩
theorem WFL.less {K : Kst} {its : List IR} {ext ext' : List (Addr × Obj)} (W : WFL K its ext) (h : ∀ p ∈ ext', p ∈ ext) : WFL K its ext' := ⟨W.lo, W.pw, fun p hp => W.ex p (h p hp)⟩
def upd (its : List IR) (x : Nat) (f : IR → IR) : List IR := its.map fun i => if i.x = x then f i else i
theorem WFL.xs {K : Kst} {A B : List IR} {i : IR} {ext : List (Addr × Obj)} (W : WFL K (A ++ i :: B) ext) : (∀ j ∈ A, j.x ≠ i.x) ∧ ∀ j ∈ B, j.x ≠ i.x := by
  obtain ⟨_, p2, p3⟩ := List.pairwise_append.mp W.pw
  refine ⟨fun j hj => ?_, fun j hj => ?_⟩
  · have a := p3 j hj i (.head _)
    have b := (W.lo i (by simp)).2
    omega
  · have a := (List.pairwise_cons.mp p2).1 j hj
    have b := (W.lo j (by simp [hj])).2
    omega
theorem upd_id {its : List IR} {x : Nat} {f : IR → IR} (h : ∀ j ∈ its, j.x ≠ x) : upd its x f = its := by
  unfold upd
  induction its with
  | nil => rfl
  | cons a r ih =>
    rw [List.map_cons, if_neg (h a (.head _)), ih fun j hj => h j (.tail _ hj)]
theorem WFL.upd {K : Kst} {A B : List IR} {i : IR} {ext : List (Addr × Obj)} (W : WFL K (A ++ i :: B) ext) (f : IR → IR) : upd (A ++ i :: B) i.x f = A ++ f i :: B := by
  obtain ⟨h1, h2⟩ := W.xs
  show (A ++ i :: B).map _ = _
  rw [List.map_append, List.map_cons, if_pos rfl]
  show Mine.upd A i.x f ++ f i :: Mine.upd B i.x f = _
  rw [upd_id h1, upd_id h2]
theorem upd_mem {its : List IR} {i : IR} {x : Nat} {f : IR → IR} (h : i ∈ its) (hx : i.x ≠ x) : i ∈ upd its x f := List.mem_map.mpr ⟨i, h, if_neg hx⟩
theorem mem_app {α : Type} {a : α} : ∀ {l : List α}, a ∈ l → ∃ A B, l = A ++ a :: B
  | _ :: r, .head _ => ⟨[], r, rfl⟩
  | b :: _, .tail _ h => let ⟨A, B, e⟩ := mem_app h; ⟨b :: A, B, by rw [e]; rfl⟩
theorem three {kr : List Int} (h : kr.length ≤ 2) : ∃ r : Int, 0 ≤ r ∧ r < 3 ∧ r ∉ kr := by
  match kr, h with
  | [], _ => exact ⟨0, by omega, by omega, by simp⟩
  | [a], _ =>
    by_cases h0 : a = 0
    · exact ⟨1, by omega, by omega, by simp [h0]⟩
    · exact ⟨0, by omega, by omega, by simp; omega⟩
  | [a, b], _ =>
    by_cases h0 : a = 0 ∨ b = 0
    · by_cases h1 : a = 1 ∨ b = 1
      · exact ⟨2, by omega, by omega, by simp; omega⟩
      · exact ⟨1, by omega, by omega, by simp; omega⟩
    · exact ⟨0, by omega, by omega, by simp; omega⟩
theorem refs_get {own : List (Int × Nat)} (hnd : (own.map (·.1)).Nodup) {k : Int} {x : Nat} (h : (k, x) ∈ own) : valueAt (refs own) k = some (.ref x) := by
  obtain ⟨a, b, rfl⟩ := mem_app h
  rw [List.map_append, List.map_cons] at hnd
  exact refs_at fun hm => (List.nodup_append.mp hnd).2.2 k hm k (.head _) rfl
theorem refs_one {own : List (Int × Nat)} (hnd : (own.map (·.1)).Nodup) {k : Int} {x y : Nat} (h : (k, x) ∈ own) (h' : (k, y) ∈ own) : x = y := by
  have e := (refs_get hnd h).symm.trans (refs_get hnd h')
  cases e
  rfl
theorem ints_mem {vs : List Value} {ns : List Int} (h : IntsAre vs ns) {v : Value} (hv : v ∈ vs) : ∃ k t, v = .int k t ∧ k ∈ ns := by
  obtain ⟨i, hi⟩ := List.mem_iff_getElem?.mp hv
  obtain ⟨k, t, e, hk⟩ := h.at i v hi
  exact ⟨k, t, e, List.mem_of_getElem? hk⟩
theorem paired_refs {own : List (Int × Nat)} (hnd : (own.map (·.1)).Nodup) : ∀ {l : List (Int × Nat)} {vs ys : List Value}, (∀ p ∈ l, p ∈ own) → IntsAre vs (l.map (·.1)) → Paired (fun v y => ∃ k t x, v = Value.int k t ∧ y = Value.ref x ∧ (k, x) ∈ own) vs ys → ys = l.map fun p => Value.ref p.2
  | [], _, _, _, hI, hp => by cases hI; cases hp; rfl
  | (k, x) :: l, _, _, hl, hI, hp => by
    rw [List.map_cons] at hI
    cases hI with
    | cons n t hI =>
      cases hp with
      | cons h1 h2 =>
        obtain ⟨k', t', x', e1, e2, hm⟩ := h1
        cases e1
        rw [paired_refs hnd (fun p hp => hl p (.tail _ hp)) hI h2, e2, refs_one hnd hm (hl (k, x) (.head _))]
        rfl
/-- the words of the frame: those handed out and those free are apart, none above -20, low the deepest -/
structure SlotsOk (low lowest : Int) (fs ks : List Int) : Prop where
  eq : lowest = low
  le : low ≤ -16
  four : low % 4 = 0
  all : ∀ s ∈ fs ++ ks, low ≤ s ∧ s ≤ -20 ∧ s % 4 = 0
  nd : (fs ++ ks).Nodup
theorem SlotsOk.give {low lowest : Int} {fs ks : List Int} (S : SlotsOk low lowest fs ks) :
    SlotsOk (tempF low lowest fs).2.1 (tempF low lowest fs).2.2.1 (tempF low lowest fs).2.2.2 (ks ++ [(tempF low lowest fs).1]) ∧ (tempF low lowest fs).1 ∉ ks ∧ ((tempF low lowest fs).2.1 = low ∨ (tempF low lowest fs).2.1 = (tempF low lowest fs).1) ∧ (tempF low lowest fs).2.1 ≤ low := by
  obtain ⟨h1, h2, h3, h4, h5⟩ := S
  cases hl : fs.getLast? with
  | some y =>
    have hn : fs ≠ [] := by rintro rfl; cases hl
    have e : tempF low lowest fs = (y, low, lowest, fs.dropLast) := by unfold tempF; rw [hl]
    have hy : fs = fs.dropLast ++ [y] := by
      have := List.dropLast_concat_getLast hn
      rw [List.getLast?_eq_some_getLast hn] at hl
      rw [Option.some.inj hl] at this
      exact this.symm
    rw [e]
    generalize hd : fs.dropLast = ds at hy
    rw [hy] at h4 h5
    have hyk : y ∉ ks := fun hm => (List.nodup_append.mp h5).2.2 y (by simp) y hm rfl
    refine ⟨⟨h1, h2, h3, fun s hs => h4 s ?_, ?_⟩, hyk, .inl rfl, Int.le_refl _⟩
    · simp only [List.mem_append, List.mem_singleton] at hs ⊢
      rcases hs with h | h | h
      · exact .inl (.inl h)
      · exact .inr h
      · exact .inl (.inr h)
    · show (ds ++ (ks ++ [y])).Nodup
      have hp : (ds ++ (ks ++ [y])).Perm (ds ++ [y] ++ ks) := by
        rw [List.append_assoc]
        exact List.Perm.append_left _ List.perm_append_comm
      exact hp.nodup_iff.mpr h5
  | none =>
    have hn : fs = [] := by
      cases fs with
      | nil => rfl
      | cons a r => rw [List.getLast?_cons] at hl; cases hl
    subst hn
    have e : tempF low lowest [] = (low - 4, low - 4, (if low - 4 < lowest then low - 4 else lowest), []) := rfl
    rw [e]
    have h1' := h1.symm
    subst h1'
    have hnk : low - 4 ∉ ks := fun hm => by have := (h4 _ (by simpa using hm)).1; omega
    refine ⟨⟨by show (if low - 4 < low then low - 4 else low) = low - 4; rw [if_pos (by omega)], by show low - 4 ≤ -16; omega, by show (low - 4) % 4 = 0; omega, fun s hs => ?_, ?_⟩, hnk, .inr rfl, by show low - 4 ≤ low; omega⟩
    · have hs' : s ∈ ks ∨ s = low - 4 := by simpa using hs
      show low - 4 ≤ s ∧ _
      rcases hs' with h | rfl
      · have := h4 s (by simpa using h); omega
      · omega
    · show ([] ++ (ks ++ [low - 4])).Nodup
      rw [List.nil_append, List.nodup_append]
      refine ⟨by simpa using h5, by simp, fun a ha b hb => ?_⟩
      rw [List.mem_singleton.mp hb]
      rintro rfl
      exact hnk ha
theorem tempF_len (low lowest : Int) (fs : List Int) : (tempF low lowest fs).2.2.2.length ≤ fs.length := by
  unfold tempF
  split
  · simp
  · simp
/-- the state that the pool's and the frame's words make -/
structure St where
  low : Int
  lowest : Int
  fs : List Int
  own : List (Int × Nat)
  spl : List (Int × Nat)
  its : List IR
  rV : List Value
  ext : List (Addr × Obj)
section
variable {K : Kst} {cE : List DictEntry} {cN : Nat} {rV : List Value} {rN : Nat} {oO : Obj} {dV : List Value} {dN : Nat} {mO : Obj} {tV : List Value} {tN : Nat} {fV : List Value} {fN : Nat} {sO : Obj} {rest : List (Addr × Obj)} {p : Addr × Obj}
theorem core_mem (h : p ∈ rest) : p ∈ coreL K cE cN rV rN oO dV dN mO tV tN fV fN sO rest := List.mem_append_right (coreL K cE cN rV rN oO dV dN mO tV tN fV fN sO []) h
theorem core_mem0 (h : p ∈ coreL K cE cN rV rN oO dV dN mO tV tN fV fN sO []) : p ∈ coreL K cE cN rV rN oO dV dN mO tV tN fV fN sO rest := List.mem_append_left rest h
theorem core_mem' (h : p ∈ coreL K cE cN rV rN oO dV dN mO tV tN fV fN sO rest) : p ∈ coreL K cE cN rV rN oO dV dN mO tV tN fV fN sO [] ∨ p ∈ rest :=
  List.mem_append.mp (show p ∈ coreL K cE cN rV rN oO dV dN mO tV tN fV fN sO [] ++ rest from h)
theorem core_key (q : p ∈ coreL K cE cN rV rN oO dV dN mO tV tN fV fN sO []) : p.1 ∈ K.all := by
  have e : (coreL K cE cN rV rN oO dV dN mO tV tN fV fN sO []).map (·.1) = [K.c, K.cd, K.b, K.bd, K.rw, K.p, K.pd, K.ow, K.od, K.sp, K.mp, K.rt, K.ft, K.sd] := rfl
  exact (core_prm K).mem_iff.mp (e ▸ List.mem_map.mpr ⟨p, q, rfl⟩)
theorem all_le (O : K.Ok) : ∀ z ∈ K.all, z ≤ K.sd := fun z hz => O.le_sd hz
theorem off_of_core {D : Nat} (h : ∀ q ∈ coreL K cE cN rV rN oO dV dN mO tV tN fV fN sO rest, q.1 ≠ D) : ∀ z ∈ K.all, D ≠ z := fun z hz e => by
  have e1 : (coreL K cE cN rV rN oO dV dN mO tV tN fV fN sO []).map (·.1) = [K.c, K.cd, K.b, K.bd, K.rw, K.p, K.pd, K.ow, K.od, K.sp, K.mp, K.rt, K.ft, K.sd] := rfl
  obtain ⟨p, hp, hpz⟩ := List.mem_map.mp (show z ∈ (coreL K cE cN rV rN oO dV dN mO tV tN fV fN sO []).map (·.1) from e1 ▸ (core_prm K).mem_iff.mpr hz)
  exact h p (core_mem0 hp) (hpz.trans e.symm)
theorem core_mem_sd : (K.sd, sO) ∈ coreL K cE cN rV rN oO dV dN mO tV tN fV fN sO rest := core_mem0 (by simp [coreL])
end
end
end
section
open PySem PySem.W PySem.Calls PyProof.Rows PySem.Spec
section
section
variable {M : Model} {A : Around} {E : Value → Shared → Prop} {s : Shared} {env : Env}
theorem name_blk {x : Str} {pos : Pos} {v : Value} {m₃ : Str → Option Value} {Q : Value → Shared → Prop} (hn : s.heap.Ns env.locals m₃) (hm : m₃ x = some v) (h : Q v s) (hk : env.scope.kind = .function) (hl : env.kindOf x = some .local) (hd : (x == ("__debug__" : Str)) = false) :
    wpAny M A (eval (.Name x pos) env) Q E s := wpAny_Name (wpAny_loadName_local hk hl hn hm h) hd
end
section
variable {prog : Program} {w : World} {A : Around} {E : Value → Shared → Prop} {s : Shared} {env : Env}
/-- one turn of a block: its own name v, all else as it stood -/
abbrev Blk (h₀ : Heap) (L : Addr) (m : Str → Option Value) (news : List (Addr × Obj)) (C : Addr) (x : Str) (v : Value) (s₃ : Shared) : Prop :=
  (∃ m₃, s₃.heap.Ns C m₃ ∧ m₃ x = some v) ∧ Fr h₀ L s₃.heap m ∧ News h₀ L s₃.heap news
def CompGoal (prog : Program) (w : World) (A : Around) (env : Env) (scope : Scope) (cl : List (Str × Addr)) (x : Str) (ifs : List Expr) (elt : Expr) (p : Value → Bool) (F : Value → Value → Prop) (Q : Value → Shared → Prop) (xv : Value) (s₁ : Shared) : Prop :=
  ∃ (l : Addr) (vs : List Value) (n : Nat) (h₀ : Heap) (m : Str → Option Value) (news : List (Addr × Obj)), xv = .ref l ∧ Fr h₀ env.locals s₁.heap m ∧ News h₀ env.locals s₁.heap news ∧ (l, listOf vs.toArray n) ∈ news ∧ vs.length ≤ 100000 ∧
    (∀ C v s₃ E', v ∈ vs → Blk h₀ env.locals m news C x v s₃ → wpAny (model prog w) A (forIn ifs true fun c r => if r = true then do let ok ← isTrue c (compEnvC scope cl C env) (eval c (compEnvC scope cl C env)); pure (ForInStep.yield ok) else pure (ForInStep.yield r))
      (fun ok s₄ => ok = p v ∧ Keeps s₃ s₄) E' s₃) ∧
    (∀ C v s₃ E', v ∈ vs → p v = true → Blk h₀ env.locals m news C x v s₃ → wpAny (model prog w) A (eval elt (compEnvC scope cl C env)) (fun y s₄ => F v y ∧ Keeps s₃ s₄) E' s₃) ∧
    (∀ D h' tk ys n', Fr h₀ env.locals h' m → News h₀ env.locals h' ((D, listOf ys.toArray n') :: news) → (∀ p ∈ news, p.1 ≠ D) → Paired F (vs.filter p) ys → Q (.ref D) { s₁ with heap := h', toks := tk })
theorem paired_mem {α β : Type} {F : α → β → Prop} {l : List α} {r : List β} (h : Paired F l r) : Paired (fun a b => F a b ∧ a ∈ l) l r := by
  induction h with
  | nil => exact .nil
  | cons h1 _ ih => exact .cons ⟨h1, .head _⟩ (ih.mono fun a b h => ⟨h.1, .tail _ h.2⟩)
theorem lc_eval {elt iter : Expr} {x : Str} {px : Pos} {ifs : List Expr} {scope : Scope} {cl : List (Str × Addr)} {pos : Pos} {Q : Value → Shared → Prop} (p : Value → Bool) (F : Value → Value → Prop) (hh : A.handled = none)
    (hclos : closureFor scope env = pure cl) (hcell : ∀ y ∈ scope.names, y.2 ≠ .cell) (hkind : scope.kind = .function)
    (hnames : ∀ y ∈ scope.names, y.2 = .local → scope.names.lookup y.1 = some .local) (hx : scope.names.lookup x = some .local) (hs : ∀ x, foldedSetIterable iter env x = pure x)
    (h : wpAny (model prog w) A (eval iter env) (CompGoal prog w A env scope cl x ifs elt p F Q) E s) :
    wpAny (model prog w) A (eval (.ListComp elt [⟨.Name x px, iter, ifs, 0⟩] scope pos) env) Q E s := by
  refine wpAny_ListComp_free p F hclos hcell hkind hnames hx (wpAny_mono h (fun xv s₁ g => ?_) fun _ _ e => e) hs
  obtain ⟨l, vs, n, h₀, m, news, rfl, F₁, N₁, hl, hz, ht, he, hq⟩ := g
  have hgl := N₁ _ hl
  have hls : s₁.heap.IsList l vs.toArray := ⟨_, hgl.1, rfl, n, rfl⟩
  have hlt : l < s₁.heap.objs.size := Heap.lt_size hgl.1
  refine wpAny_pyIter_list hls ?_
  have W := Walks.list (prog := prog) (w := w) hh s₁.heap.objs.size l (Nat.ne_of_lt hlt) vs.toArray
  have up : ∀ h' : Heap, (∀ b o, b ∉ [s₁.heap.objs.size] → (s₁.heap.push { cls := .type "list_iterator", data := .fields #[.ref l, rawInt 0] }).get? b = some o → h'.get? b = some o) → ∀ b o, s₁.heap.get? b = some o → h'.get? b = some o := by
    intro h' hk b o e
    refine hk b o (fun hm => ?_) (Heap.get?_push_of_some _ e)
    exact absurd (Heap.lt_size e) ((List.mem_singleton.mp hm) ▸ Nat.lt_irrefl _)
  have blk : ∀ C v (s₃ : Shared) m₃, s₃.heap.Ns C m₃ → m₃ x = some v → (∀ b o, s₁.heap.get? b = some o → s₃.heap.get? b = some o) → Blk h₀ env.locals m news C x v s₃ := fun C v s₃ m₃ a b k => ⟨⟨m₃, a, b⟩, F₁.keeps k, N₁.grown k⟩
  refine ⟨_, _, _, _, _, _, rfl, W, by rw [List.size_toArray]; exact szOk hz, ⟨⟨_, Heap.get?_push_size _ rfl, rfl, rfl⟩, hls.at fun o e => Heap.get?_push_of_some _ e⟩, ?_, ⟨?_, ?_⟩, ?_⟩
  · intro b hb
    rw [Heap.size_push]
    rcases List.mem_cons.mp hb with rfl | hb
    · exact Nat.lt_succ_self _
    · rw [List.mem_singleton.mp hb]; exact Nat.lt_succ_of_lt hlt
  · intro C i v s₃ m₃ E' _ hP hn hm hk _
    exact ht C v s₃ E' (by have : vs[i]? = some v := by simpa using hP
                           exact List.mem_of_getElem? this) (blk C v s₃ m₃ hn hm (up _ hk))
  · intro C i v s₃ m₃ E' _ hP hpv hn hm hk _
    exact he C v s₃ E' (by have : vs[i]? = some v := by simpa using hP
                           exact List.mem_of_getElem? this) hpv (blk C v s₃ m₃ hn hm (up _ hk))
  · intro D h' tk ys vs' hD hL hpl hlen hP hF hk
    have evs : vs' = vs := by
      refine List.ext_getElem? fun j => ?_
      by_cases hj : j < vs'.length
      · have h1 : vs'[j]? = some vs'[j] := List.getElem?_eq_getElem hj
        have h2 := hP j _ h1
        rw [h1]
        have : vs[j]? = some vs'[j] := by simpa using h2
        exact this.symm
      · rw [List.getElem?_eq_none (by omega), List.getElem?_eq_none (by rw [List.size_toArray] at hlen; omega)]
    subst evs
    obtain ⟨n', hDo⟩ := hpl
    have hD1 : s₁.heap.get? D = none := by
      cases e : s₁.heap.get? D with
      | none => rfl
      | some o => rw [Heap.get?_push_of_some _ e] at hD; cases hD
    have k1 := up _ hk
    refine hq D h' tk ys.toList n' (F₁.keeps k1) ?_ (fun q hq e => ?_) hF
    · intro q hq
      rcases List.mem_cons.mp hq with rfl | hq
      · refine ⟨by simpa using hDo, ?_, ?_⟩
        · rintro rfl
          obtain ⟨o, _, _, ho, _⟩ := F₁.ns
          rw [hD1] at ho; cases ho
        · cases e : h₀.get? D with
          | none => rfl
          | some o => rw [F₁.keep D o e] at hD1; cases hD1
      · exact (N₁.grown k1) q hq
    · have := (N₁ q hq).1
      rw [e, hD1] at this
      cases this
theorem tests_nil {M : Model} {v : Value} {s₃ : Shared} {E' : Value → Shared → Prop} {f : Expr → Bool → Sem (ForInStep Bool)} : wpAny M A (forIn ([] : List Expr) true f) (fun ok s₄ => ok = (fun _ : Value => true) v ∧ Keeps s₃ s₄) E' s₃ :=
  wpAny_pure ⟨rfl, s₃.heap, s₃.toks, rfl, fun _ _ e => e⟩
theorem tests_one {M : Model} {env' : Env} {c : Expr} {s₃ : Shared} {E' : Value → Shared → Prop} {Q : Bool → Shared → Prop} (h : wpAny M A (isTrue c env' (eval c env')) Q E' s₃) :
    wpAny M A (forIn [c] true fun c r => if r = true then do let ok ← isTrue c env' (eval c env'); pure (ForInStep.yield ok) else pure (ForInStep.yield r)) Q E' s₃ := by
  simp only [List.forIn_cons, List.forIn_nil, if_true]
  refine wpAny_bind (wpAny_bind (wpAny_mono h (fun ok s₄ g => wpAny_pure ?_) fun _ _ e => e))
  exact wpAny_pure g
end
end
section
open PySem PySem.W PySem.Calls PyProof.Rows PySem.Spec
/-- a row of the buffer -/
structure Op where
  tp : Nat
  str : Bool
  a : Int
  c : Int
  t1 : Tok
  t2 : Tok
  t3 : Tok
  t4 : Tok
abbrev Op.o (q : Op) : Obj := tupO [.str (if q.str = true then "STR" else "LDR") q.t1, .int q.a q.t2, .int 11 q.t3, .int q.c q.t4]
def playF (s : List (Int × Value) × List (Int × Value)) (q : Op) : List (Int × Value) × List (Int × Value) :=
  if q.str = true then (s.1, stored s.2 q.c ((valueAt s.1 q.a).getD .none)) else (stored s.1 q.a ((valueAt s.2 q.c).getD .none), s.2)
theorem nmin (k n : Nat) : min (k : Int) (n : Int) = ((min k n : Nat) : Int) := by omega
theorem pick_from (vs : List Value) {x : Int} (h : 0 ≤ x) : slicePick vs.toArray (some x) none none = (vs.drop x.toNat).toArray := by
  obtain ⟨k, rfl⟩ := Int.eq_ofNat_of_zero_le h
  rw [Int.toNat_natCast]
  have e : sliceBounds (some (k : Int)) none none vs.toArray.size = (((min k vs.toArray.size : Nat) : Int), ((vs.toArray.size : Nat) : Int), 1) := by
    simp only [sliceBounds, Option.getD_none, show (1 : Int) > 0 by decide, if_true, if_neg (show ¬ ((k : Int) < 0) by omega)]
    congr 1
    show max (0 : Int) (min (k : Int) (vs.toArray.size : Int)) = _
    rw [nmin]
    exact Int.max_eq_right (Int.natCast_nonneg _)
  rw [kmk_pick_nat _ e]
  show ((vs.drop (min k vs.toArray.size)).take (vs.toArray.size - min k vs.toArray.size)).toArray = _
  rw [List.size_toArray, kmk_drop_min]
  congr 1
  rw [List.take_of_length_le]
  rw [List.length_drop]; omega
theorem pick_upto (vs : List Value) {y : Int} (h : 0 ≤ y) : slicePick vs.toArray none (some y) none = (vs.take y.toNat).toArray := by
  have e : sliceBounds none (some y) none vs.toArray.size = (((0 : Nat) : Int), ((min y.toNat vs.toArray.size : Nat) : Int), 1) := by
    simp only [sliceBounds, Option.getD_none, show (1 : Int) > 0 by decide, if_true, if_neg (show ¬ (y < 0) by omega)]
    congr 1
    congr 1
    omega
  rw [kmk_pick_nat _ e]
  show ((vs.drop 0).take (min y.toNat vs.toArray.size - 0)).toArray = _
  rw [List.drop_zero, Nat.sub_zero, List.size_toArray, kmk_take_min]
end
end
section
open PySem PySem.W PySem.Calls PyProof.Rows PySem.Spec
section
/-- items, registers and words agree -/
structure Core (cnt : Int) (its : List IR) (own spl : List (Int × Nat)) : Prop where
  xnd : (its.map (·.x)).Nodup
  ond : (own.map (·.1)).Nodup
  oxn : (own.map (·.2)).Nodup
  okey : ∀ p ∈ own, 0 ≤ p.1 ∧ p.1 < cnt
  o2i : ∀ p ∈ own, ∃ v ∈ its, v.x = p.2 ∧ v.reg = p.1 ∧ v.mode = "reg"
  snd : (spl.map (·.1)).Nodup
  s2i : ∀ p ∈ spl, ∃ v ∈ its, v.x = p.2 ∧ v.slot = p.1 ∧ v.mode = "spill" ∧ v.was = "reg"
  i2 : ∀ i ∈ its, (i.mode = "reg" ∧ (i.reg, i.x) ∈ own) ∨ (i.mode = "spill" ∧ i.was = "reg" ∧ (i.slot, i.x) ∈ spl)
structure Vals (its : List IR) (st : List (Int × Value) × List (Int × Value)) : Prop where
  rg : ∀ i ∈ its, i.mode = "reg" → ∃ t, valueAt st.1 i.reg = some (.int i.value t)
  sl : ∀ i ∈ its, i.mode = "spill" → ∃ t, valueAt st.2 i.slot = some (.int i.value t)
theorem reg_ne_spill : ("reg" : Str) ≠ "spill" := by decide
theorem spill_ne_reg : ("spill" : Str) ≠ "reg" := by decide
theorem one_x {its : List IR} (h : (its.map (·.x)).Nodup) {i j : IR} (hi : i ∈ its) (hj : j ∈ its) (e : i.x = j.x) : i = j := by
  obtain ⟨A, B, rfl⟩ := mem_app hi
  rw [List.map_append, List.map_cons] at h
  obtain ⟨_, h2, h3⟩ := List.nodup_append.mp h
  have h4 := (List.nodup_cons.mp h2).1
  rcases List.mem_append.mp hj with q | q
  · exact absurd e.symm (h3 j.x (List.mem_map.mpr ⟨j, q, rfl⟩) i.x (.head _))
  · rcases List.mem_cons.mp q with q | q
    · exact q.symm
    · exact absurd (List.mem_map.mpr ⟨j, q, e.symm⟩) h4
theorem upd_xs {its : List IR} {x : Nat} {f : IR → IR} (hf : ∀ i, (f i).x = i.x) : (upd its x f).map (·.x) = its.map (·.x) := by
  unfold upd
  rw [List.map_map]
  refine List.map_congr_left fun i _ => ?_
  show (if i.x = x then f i else i).x = i.x
  split
  · exact hf i
  · rfl
theorem mem_upd {its : List IR} {x : Nat} {f : IR → IR} {j : IR} (h : j ∈ upd its x f) : ∃ i ∈ its, (i.x = x ∧ j = f i) ∨ (i.x ≠ x ∧ j = i) := by
  obtain ⟨i, hi, e⟩ := List.mem_map.mp h
  by_cases hx : i.x = x
  · rw [if_pos hx] at e; exact ⟨i, hi, .inl ⟨hx, e.symm⟩⟩
  · rw [if_neg hx] at e; exact ⟨i, hi, .inr ⟨hx, e.symm⟩⟩
theorem in_upd {its : List IR} {x : Nat} {f : IR → IR} {i : IR} (h : i ∈ its) : (if i.x = x then f i else i) ∈ upd its x f := List.mem_map.mpr ⟨i, h, rfl⟩
theorem upd_len {its : List IR} {x : Nat} {f : IR → IR} : (upd its x f).length = its.length := List.length_map ..
theorem snoc_nodup {α : Type} {l : List α} {a : α} (h : l.Nodup) (ha : a ∉ l) : (l ++ [a]).Nodup :=
  List.nodup_append.mpr ⟨h, by simp, fun x hx y hy e => ha (by rw [List.mem_singleton.mp hy] at e; exact e ▸ hx)⟩
section
variable {cnt : Int} {its : List IR} {own spl oa ob sa sb : List (Int × Nat)} {v q : IR} {st : List (Int × Value) × List (Int × Value)}
theorem Core.regs_inj (C : Core cnt its own spl) {i j : IR} (hi : i ∈ its) (hj : j ∈ its) (mi : i.mode = "reg") (mj : j.mode = "reg") (e : i.reg = j.reg) : i.x = j.x := by
  rcases C.i2 i hi with ⟨_, h⟩ | ⟨h, _⟩
  · rcases C.i2 j hj with ⟨_, h'⟩ | ⟨h', _⟩
    · rw [e] at h; exact refs_one C.ond h h'
    · rw [mj] at h'; exact absurd h' reg_ne_spill
  · rw [mi] at h; exact absurd h reg_ne_spill
theorem Core.slots_inj (C : Core cnt its own spl) {i j : IR} (hi : i ∈ its) (hj : j ∈ its) (mi : i.mode = "spill") (mj : j.mode = "spill") (e : i.slot = j.slot) : i.x = j.x := by
  rcases C.i2 i hi with ⟨h, _⟩ | ⟨_, _, h⟩
  · rw [mi] at h; exact absurd h spill_ne_reg
  · rcases C.i2 j hj with ⟨h', _⟩ | ⟨_, _, h'⟩
    · rw [mj] at h'; exact absurd h' spill_ne_reg
    · rw [e] at h; exact refs_one C.snd h h'
theorem Core.spill (C : Core cnt its own spl) (hv : v ∈ its) (hm : v.mode = "reg") (ho : own = oa ++ (v.reg, v.x) :: ob) {sl : Int} (hs : sl ∉ spl.map (·.1)) (tm tr ts ta : Tok) :
    Core cnt (upd its v.x (·.spilt sl tm tr ts ta)) (oa ++ ob) (spl ++ [(sl, v.x)]) := by
  subst ho
  have n1 := C.ond
  have n2 := C.oxn
  rw [List.map_append, List.map_cons] at n1 n2
  obtain ⟨n3, n4, n5⟩ := mid_nodup n1
  obtain ⟨n6, n7, n8⟩ := mid_nodup n2
  have hk : ∀ p ∈ oa ++ ob, p ∈ oa ++ (v.reg, v.x) :: ob := fun p hp => by
    rcases List.mem_append.mp hp with h | h
    · exact List.mem_append_left _ h
    · exact List.mem_append_right _ (.tail _ h)
  have hx : ∀ p ∈ oa ++ ob, p.2 ≠ v.x := fun p hp e => by
    rcases List.mem_append.mp hp with h | h
    · exact n7 (e ▸ List.mem_map.mpr ⟨p, h, rfl⟩)
    · exact n8 (e ▸ List.mem_map.mpr ⟨p, h, rfl⟩)
  refine ⟨by rw [upd_xs (f := (·.spilt sl tm tr ts ta)) fun _ => rfl]; exact C.xnd, by rw [List.map_append]; exact n3, by rw [List.map_append]; exact n6, fun p hp => C.okey p (hk p hp), fun p hp => ?_, ?_, fun p hp => ?_, fun j hj => ?_⟩
  · obtain ⟨z, hz, e1, e2, e3⟩ := C.o2i p (hk p hp)
    exact ⟨z, upd_mem hz (by rw [e1]; exact hx p hp), e1, e2, e3⟩
  · rw [List.map_append]; exact snoc_nodup C.snd hs
  · rcases List.mem_append.mp hp with h | h
    · obtain ⟨z, hz, e1, e2, e3, e4⟩ := C.s2i p h
      have hne : z.x ≠ v.x := fun e => by
        have := one_x C.xnd hz hv e
        rw [this, hm] at e3
        exact reg_ne_spill e3
      exact ⟨z, upd_mem hz hne, e1, e2, e3, e4⟩
    · rw [List.mem_singleton.mp h]
      refine ⟨v.spilt sl tm tr ts ta, ?_, rfl, rfl, rfl, hm⟩
      have := in_upd (x := v.x) (f := (·.spilt sl tm tr ts ta)) hv
      rwa [if_pos rfl] at this
  · obtain ⟨i, hi, ⟨e, rfl⟩ | ⟨e, rfl⟩⟩ := mem_upd hj
    · have := one_x C.xnd hi hv e
      subst this
      exact .inr ⟨rfl, hm, List.mem_append_right _ (.head _)⟩
    · rcases C.i2 j hi with ⟨a, b⟩ | ⟨a, b, c⟩
      · refine .inl ⟨a, ?_⟩
        rcases List.mem_append.mp b with h | h
        · exact List.mem_append_left _ h
        · rcases List.mem_cons.mp h with h | h
          · exact absurd (Prod.mk.inj h).2 e
          · exact List.mem_append_right _ h
      · exact .inr ⟨a, b, List.mem_append_left _ c⟩
theorem Vals.spill (C : Core cnt its own spl) (V : Vals its st) (hv : v ∈ its) (hm : v.mode = "reg") {sl : Int} (hs : sl ∉ spl.map (·.1)) (tm tr ts ta : Tok) :
    Vals (upd its v.x (·.spilt sl tm tr ts ta)) (st.1, stored st.2 sl ((valueAt st.1 v.reg).getD .none)) := by
  refine ⟨fun j hj mj => ?_, fun j hj mj => ?_⟩
  · obtain ⟨i, hi, ⟨e, rfl⟩ | ⟨e, rfl⟩⟩ := mem_upd hj
    · exact absurd mj spill_ne_reg
    · exact V.rg j hi mj
  · obtain ⟨i, hi, ⟨e, rfl⟩ | ⟨e, rfl⟩⟩ := mem_upd hj
    · have := one_x C.xnd hi hv e
      subst this
      obtain ⟨t, ht⟩ := V.rg i hi hm
      exact ⟨t, by show valueAt (stored st.2 sl _) sl = _; rw [vA_stored, if_pos rfl, ht]; rfl⟩
    · obtain ⟨t, ht⟩ := V.sl j hi mj
      refine ⟨t, ?_⟩
      show valueAt (stored st.2 sl _) j.slot = _
      rw [vA_stored, if_neg (fun q => ?_)]
      · exact ht
      · rcases C.i2 j hi with ⟨a, _⟩ | ⟨_, _, b⟩
        · rw [mj] at a; exact spill_ne_reg a
        · exact hs (q ▸ List.mem_map.mpr ⟨_, b, rfl⟩)
theorem Core.add (C : Core cnt its own spl) (hx : q.x ∉ its.map (·.x)) (hm : q.mode = "reg") (hr : q.reg ∉ own.map (·.1)) (h0 : 0 ≤ q.reg) (h1 : q.reg < cnt) : Core cnt (its ++ [q]) (own ++ [(q.reg, q.x)]) spl := by
  refine ⟨?_, ?_, ?_, fun p hp => ?_, fun p hp => ?_, C.snd, fun p hp => ?_, fun j hj => ?_⟩
  · rw [List.map_append]; exact snoc_nodup C.xnd hx
  · rw [List.map_append]; exact snoc_nodup C.ond hr
  · rw [List.map_append]
    refine snoc_nodup C.oxn fun h => ?_
    obtain ⟨p, hp, e⟩ := List.mem_map.mp h
    obtain ⟨z, hz, e1, _⟩ := C.o2i p hp
    exact hx (List.mem_map.mpr ⟨z, hz, by rw [e1, e]⟩)
  · rcases List.mem_append.mp hp with h | h
    · exact C.okey p h
    · rw [List.mem_singleton.mp h]; exact ⟨h0, h1⟩
  · rcases List.mem_append.mp hp with h | h
    · obtain ⟨z, hz, e⟩ := C.o2i p h
      exact ⟨z, List.mem_append_left _ hz, e⟩
    · rw [List.mem_singleton.mp h]; exact ⟨q, List.mem_append_right _ (.head _), rfl, rfl, hm⟩
  · obtain ⟨z, hz, e⟩ := C.s2i p hp
    exact ⟨z, List.mem_append_left _ hz, e⟩
  · rcases List.mem_append.mp hj with h | h
    · rcases C.i2 j h with ⟨a, b⟩ | h
      · exact .inl ⟨a, List.mem_append_left _ b⟩
      · exact .inr h
    · rw [List.mem_singleton.mp h]; exact .inl ⟨hm, List.mem_append_right _ (.head _)⟩
theorem Vals.add (C : Core cnt its own spl) (V : Vals its st) (hm : q.mode = "reg") (hr : q.reg ∉ own.map (·.1)) (t : Tok) : Vals (its ++ [q]) (stored st.1 q.reg (.int q.value t), st.2) := by
  refine ⟨fun j hj mj => ?_, fun j hj mj => ?_⟩
  · rcases List.mem_append.mp hj with h | h
    · obtain ⟨t', ht⟩ := V.rg j h mj
      refine ⟨t', ?_⟩
      show valueAt (stored st.1 q.reg _) j.reg = _
      rw [vA_stored, if_neg (fun e => ?_)]
      · exact ht
      · rcases C.i2 j h with ⟨_, b⟩ | ⟨a, _⟩
        · exact hr (e ▸ List.mem_map.mpr ⟨_, b, rfl⟩)
        · rw [mj] at a; exact reg_ne_spill a
    · rw [List.mem_singleton.mp h]
      exact ⟨t, by show valueAt (stored st.1 q.reg _) q.reg = _; rw [vA_stored, if_pos rfl]⟩
  · rcases List.mem_append.mp hj with h | h
    · exact V.sl j h mj
    · rw [List.mem_singleton.mp h, hm] at mj; exact absurd mj reg_ne_spill
/-- an item of a word comes back into a register -/
theorem Core.load (C : Core cnt its own spl) (hq : q ∈ its) (hm : q.mode = "spill") (hs : spl = sa ++ (q.slot, q.x) :: sb) {r : Int} (hr : r ∉ own.map (·.1)) (h0 : 0 ≤ r) (h1 : r < cnt) {f : IR → IR} (fx : ∀ i, (f i).x = i.x) (fr : (f q).reg = r) (fm : (f q).mode = q.was) :
    Core cnt (upd its q.x f) (own ++ [(r, q.x)]) (sa ++ sb) := by
  subst hs
  have n1 := C.snd
  rw [List.map_append, List.map_cons] at n1
  obtain ⟨n3, n4, n5⟩ := mid_nodup n1
  have hwas : q.was = "reg" := by
    rcases C.i2 q hq with ⟨a, _⟩ | ⟨_, b, _⟩
    · rw [hm] at a; exact absurd a spill_ne_reg
    · exact b
  have hk : ∀ p ∈ sa ++ sb, p ∈ sa ++ (q.slot, q.x) :: sb := fun p hp => by
    rcases List.mem_append.mp hp with h | h
    · exact List.mem_append_left _ h
    · exact List.mem_append_right _ (.tail _ h)
  have hin : f q ∈ upd its q.x f := by
    have := in_upd (x := q.x) (f := f) hq
    rwa [if_pos rfl] at this
  refine ⟨by rw [upd_xs fx]; exact C.xnd, ?_, ?_, fun p hp => ?_, fun p hp => ?_, by rw [List.map_append]; exact n3, fun p hp => ?_, fun j hj => ?_⟩
  · rw [List.map_append]; exact snoc_nodup C.ond hr
  · rw [List.map_append]
    refine snoc_nodup C.oxn fun h => ?_
    obtain ⟨p, hp, e⟩ := List.mem_map.mp h
    obtain ⟨z, hz, e1, _, e3⟩ := C.o2i p hp
    have := one_x C.xnd hz hq (e1.trans e)
    rw [this, hm] at e3
    exact spill_ne_reg e3
  · rcases List.mem_append.mp hp with h | h
    · exact C.okey p h
    · rw [List.mem_singleton.mp h]; exact ⟨h0, h1⟩
  · rcases List.mem_append.mp hp with h | h
    · obtain ⟨z, hz, e1, e2, e3⟩ := C.o2i p h
      have hne : z.x ≠ q.x := fun e => by
        have := one_x C.xnd hz hq e
        rw [this, hm] at e3
        exact spill_ne_reg e3
      exact ⟨z, upd_mem hz hne, e1, e2, e3⟩
    · rw [List.mem_singleton.mp h]; exact ⟨f q, hin, fx q, fr, by rw [fm, hwas]⟩
  · obtain ⟨z, hz, e1, e2, e3, e4⟩ := C.s2i p (hk p hp)
    have hne : z.x ≠ q.x := fun e => by
      have := one_x C.xnd hz hq e
      subst this
      have hm' : z.slot ∈ (sa ++ sb).map (·.1) := List.mem_map.mpr ⟨p, hp, e2.symm⟩
      rw [List.map_append] at hm'
      rcases List.mem_append.mp hm' with h | h
      · exact n4 h
      · exact n5 h
    exact ⟨z, upd_mem hz hne, e1, e2, e3, e4⟩
  · obtain ⟨i, hi, ⟨e, rfl⟩ | ⟨e, rfl⟩⟩ := mem_upd hj
    · have := one_x C.xnd hi hq e
      subst this
      exact .inl ⟨by rw [fm, hwas], by rw [fr, fx]; exact List.mem_append_right _ (.head _)⟩
    · rcases C.i2 j hi with ⟨a, b⟩ | ⟨a, b, c⟩
      · exact .inl ⟨a, List.mem_append_left _ b⟩
      · refine .inr ⟨a, b, ?_⟩
        rcases List.mem_append.mp c with h | h
        · exact List.mem_append_left _ h
        · rcases List.mem_cons.mp h with h | h
          · exact absurd (Prod.mk.inj h).2 e
          · exact List.mem_append_right _ h
theorem Vals.load (C : Core cnt its own spl) (V : Vals its st) (hq : q ∈ its) (hm : q.mode = "spill") {r : Int} (hr : r ∉ own.map (·.1)) {f : IR → IR} (fr : (f q).reg = r) (fm : (f q).mode = q.was) (fv : (f q).value = q.value) :
    Vals (upd its q.x f) (stored st.1 r ((valueAt st.2 q.slot).getD .none), st.2) := by
  have hwas : q.was = "reg" := by
    rcases C.i2 q hq with ⟨a, _⟩ | ⟨_, b, _⟩
    · rw [hm] at a; exact absurd a spill_ne_reg
    · exact b
  refine ⟨fun j hj mj => ?_, fun j hj mj => ?_⟩
  · obtain ⟨i, hi, ⟨e, rfl⟩ | ⟨e, rfl⟩⟩ := mem_upd hj
    · have := one_x C.xnd hi hq e
      subst this
      obtain ⟨t, ht⟩ := V.sl i hi hm
      refine ⟨t, ?_⟩
      show valueAt (stored st.1 r _) (f i).reg = _
      rw [vA_stored, if_pos fr, ht, fv]; rfl
    · obtain ⟨t, ht⟩ := V.rg j hi mj
      refine ⟨t, ?_⟩
      show valueAt (stored st.1 r _) j.reg = _
      rw [vA_stored, if_neg (fun q => ?_)]
      · exact ht
      · rcases C.i2 j hi with ⟨_, b⟩ | ⟨a, _⟩
        · exact hr (q ▸ List.mem_map.mpr ⟨_, b, rfl⟩)
        · rw [mj] at a; exact reg_ne_spill a
  · obtain ⟨i, hi, ⟨e, rfl⟩ | ⟨e, rfl⟩⟩ := mem_upd hj
    · have := one_x C.xnd hi hq e
      subst this
      rw [fm, hwas] at mj; exact absurd mj reg_ne_spill
    · exact V.sl j hi mj
theorem Vals.sub {its' : List IR} (V : Vals its st) (h : ∀ i ∈ its', i ∈ its) : Vals its' st := ⟨fun i hi => V.rg i (h i hi), fun i hi => V.sl i (h i hi)⟩
theorem Core.dropR {IA IB : List IR} (C : Core cnt (IA ++ q :: IB) (oa ++ (q.reg, q.x) :: ob) spl) (hm : q.mode = "reg") : Core cnt (IA ++ IB) (oa ++ ob) spl := by
  have n1 := C.ond
  have n2 := C.oxn
  have n0 := C.xnd
  rw [List.map_append, List.map_cons] at n0 n1 n2
  obtain ⟨n3, n4, n5⟩ := mid_nodup n1
  obtain ⟨n6, n7, n8⟩ := mid_nodup n2
  obtain ⟨n9, n10, n11⟩ := mid_nodup n0
  have hk : ∀ p ∈ oa ++ ob, p ∈ oa ++ (q.reg, q.x) :: ob := fun p hp => by
    rcases List.mem_append.mp hp with h | h
    · exact List.mem_append_left _ h
    · exact List.mem_append_right _ (.tail _ h)
  have hi' : ∀ p ∈ IA ++ IB, p ∈ IA ++ q :: IB := fun p hp => by
    rcases List.mem_append.mp hp with h | h
    · exact List.mem_append_left _ h
    · exact List.mem_append_right _ (.tail _ h)
  have hi2 : ∀ p ∈ IA ++ q :: IB, p.x ≠ q.x → p ∈ IA ++ IB := fun p hp hne => by
    rcases List.mem_append.mp hp with h | h
    · exact List.mem_append_left _ h
    · rcases List.mem_cons.mp h with rfl | h
      · exact absurd rfl hne
      · exact List.mem_append_right _ h
  refine ⟨by rw [List.map_append]; exact n9, by rw [List.map_append]; exact n3, by rw [List.map_append]; exact n6, fun p hp => C.okey p (hk p hp), fun p hp => ?_, C.snd, fun p hp => ?_, fun j hj => ?_⟩
  · obtain ⟨z, hz, e1, e2⟩ := C.o2i p (hk p hp)
    refine ⟨z, hi2 z hz fun e => ?_, e1, e2⟩
    have hp2 : q.x ∈ (oa ++ ob).map (·.2) := List.mem_map.mpr ⟨p, hp, by rw [← e1, e]⟩
    rw [List.map_append] at hp2
    rcases List.mem_append.mp hp2 with h | h
    · exact n7 h
    · exact n8 h
  · obtain ⟨z, hz, e1, e2, e3, e4⟩ := C.s2i p hp
    refine ⟨z, hi2 z hz fun e => ?_, e1, e2, e3, e4⟩
    have := one_x C.xnd hz (List.mem_append_right _ (.head _)) e
    rw [this, hm] at e3
    exact reg_ne_spill e3
  · rcases C.i2 j (hi' j hj) with ⟨a, b⟩ | h
    · refine .inl ⟨a, ?_⟩
      rcases List.mem_append.mp b with h | h
      · exact List.mem_append_left _ h
      · rcases List.mem_cons.mp h with h | h
        · have hx := (Prod.mk.inj h).2
          have hj2 : q.x ∈ (IA ++ IB).map (·.x) := List.mem_map.mpr ⟨j, hj, hx⟩
          rw [List.map_append] at hj2
          rcases List.mem_append.mp hj2 with h | h
          · exact absurd h n10
          · exact absurd h n11
        · exact List.mem_append_right _ h
    · exact .inr h
theorem Core.dropS {IA IB : List IR} (C : Core cnt (IA ++ q :: IB) own (sa ++ (q.slot, q.x) :: sb)) (hm : q.mode = "spill") : Core cnt (IA ++ IB) own (sa ++ sb) := by
  have n1 := C.snd
  have n0 := C.xnd
  rw [List.map_append, List.map_cons] at n0 n1
  obtain ⟨n3, n4, n5⟩ := mid_nodup n1
  obtain ⟨n9, n10, n11⟩ := mid_nodup n0
  have hk : ∀ p ∈ sa ++ sb, p ∈ sa ++ (q.slot, q.x) :: sb := fun p hp => by
    rcases List.mem_append.mp hp with h | h
    · exact List.mem_append_left _ h
    · exact List.mem_append_right _ (.tail _ h)
  have hi' : ∀ p ∈ IA ++ IB, p ∈ IA ++ q :: IB := fun p hp => by
    rcases List.mem_append.mp hp with h | h
    · exact List.mem_append_left _ h
    · exact List.mem_append_right _ (.tail _ h)
  have hi2 : ∀ p ∈ IA ++ q :: IB, p.x ≠ q.x → p ∈ IA ++ IB := fun p hp hne => by
    rcases List.mem_append.mp hp with h | h
    · exact List.mem_append_left _ h
    · rcases List.mem_cons.mp h with rfl | h
      · exact absurd rfl hne
      · exact List.mem_append_right _ h
  refine ⟨by rw [List.map_append]; exact n9, C.ond, C.oxn, C.okey, fun p hp => ?_, by rw [List.map_append]; exact n3, fun p hp => ?_, fun j hj => ?_⟩
  · obtain ⟨z, hz, e1, e2, e3⟩ := C.o2i p hp
    refine ⟨z, hi2 z hz fun e => ?_, e1, e2, e3⟩
    have := one_x C.xnd hz (List.mem_append_right _ (.head _)) e
    rw [this, hm] at e3
    exact spill_ne_reg e3
  · obtain ⟨z, hz, e1, e2, e3, e4⟩ := C.s2i p (hk p hp)
    refine ⟨z, hi2 z hz fun e => ?_, e1, e2, e3, e4⟩
    have := one_x C.xnd hz (List.mem_append_right _ (.head _)) e
    rw [this] at e2
    have hp2 : q.slot ∈ (sa ++ sb).map (·.1) := List.mem_map.mpr ⟨p, hp, e2.symm⟩
    rw [List.map_append] at hp2
    rcases List.mem_append.mp hp2 with h | h
    · exact n4 h
    · exact n5 h
  · rcases C.i2 j (hi' j hj) with h | ⟨a, b, c⟩
    · exact .inl h
    · refine .inr ⟨a, b, ?_⟩
      rcases List.mem_append.mp c with h | h
      · exact List.mem_append_left _ h
      · rcases List.mem_cons.mp h with h | h
        · have hx := (Prod.mk.inj h).2
          have hj2 : q.x ∈ (IA ++ IB).map (·.x) := List.mem_map.mpr ⟨j, hj, hx⟩
          rw [List.map_append] at hj2
          rcases List.mem_append.mp hj2 with h | h
          · exact absurd h n10
          · exact absurd h n11
        · exact List.mem_append_right _ h
end
theorem perm_of_mem {α : Type} [BEq α] [LawfulBEq α] : ∀ {a b : List α}, a.Nodup → b.Nodup → (∀ x, x ∈ a ↔ x ∈ b) → a.Perm b
  | [], b, _, _, h => by
    cases b with
    | nil => exact .refl _
    | cons y b => exact absurd ((h y).mpr (.head _)) List.not_mem_nil
  | x :: a, b, ha, hb, h => by
    have hx : x ∈ b := (h x).mp (.head _)
    obtain ⟨b1, b2, rfl⟩ := mem_app hx
    obtain ⟨n1, n2, n3⟩ := mid_nodup hb
    obtain ⟨a1, a2⟩ := List.nodup_cons.mp ha
    refine .trans (.cons x (perm_of_mem a2 n1 fun y => ?_)) List.perm_middle.symm
    constructor
    · intro hy
      have := (h y).mp (.tail _ hy)
      rcases List.mem_append.mp this with q | q
      · exact List.mem_append_left _ q
      · rcases List.mem_cons.mp q with rfl | q
        · exact absurd hy a1
        · exact List.mem_append_right _ q
    · intro hy
      have hy' : y ∈ b1 ++ x :: b2 := by
        rcases List.mem_append.mp hy with q | q
        · exact List.mem_append_left _ q
        · exact List.mem_append_right _ (.tail _ q)
      rcases List.mem_cons.mp ((h y).mpr hy') with rfl | q
      · rcases List.mem_append.mp hy with q | q
        · exact absurd q n2
        · exact absurd q n3
      · exact q
theorem nodup_le : ∀ (n : Nat) {l : List Int}, l.Nodup → (∀ x ∈ l, 0 ≤ x ∧ x < (n : Int)) → l.length ≤ n
  | 0, l, _, h => by
    cases l with
    | nil => exact Nat.le_refl _
    | cons x l => have := h x (.head _); omega
  | n + 1, l, hn, h => by
    by_cases hx : (n : Int) ∈ l
    · obtain ⟨a, b, rfl⟩ := mem_app hx
      obtain ⟨n1, n2, n3⟩ := mid_nodup hn
      have := nodup_le n n1 fun y hy => by
        have hy' : y ∈ a ++ (n : Int) :: b := by
          rcases List.mem_append.mp hy with q | q
          · exact List.mem_append_left _ q
          · exact List.mem_append_right _ (.tail _ q)
        have e : y ≠ n := by
          rintro rfl
          rcases List.mem_append.mp hy with q | q
          · exact n2 q
          · exact n3 q
        have := h y hy'
        omega
      rw [List.length_append] at this
      rw [List.length_append, List.length_cons]
      omega
    · have := nodup_le n hn fun y hy => by
        have e : y ≠ n := by rintro rfl; exact hx hy
        have := h y hy
        omega
      omega
def regItems (its : List IR) : List IR := its.filter fun i => decide (i.mode = "reg")
def splItems (its : List IR) : List IR := its.filter fun i => decide (i.mode = "spill")
section
variable {cnt : Int} {its : List IR} {own spl : List (Int × Nat)}
theorem nodup_of_map {α β : Type} (f : α → β) : ∀ {l : List α}, (l.map f).Nodup → l.Nodup
  | [], _ => .nil
  | a :: l, h => by
    rw [List.map_cons] at h
    obtain ⟨h1, h2⟩ := List.nodup_cons.mp h
    exact List.nodup_cons.mpr ⟨fun hm => h1 (List.mem_map.mpr ⟨a, hm, rfl⟩), nodup_of_map f h2⟩
theorem nodup_filter_map {α β : Type} (f : α → β) (p : α → Bool) {l : List α} (h : (l.map f).Nodup) : ((l.filter p).map f).Nodup :=
  List.Nodup.sublist (List.Sublist.map f (List.filter_sublist (p := p))) h
theorem Core.held_perm (C : Core cnt its own spl) : ((regItems its).map fun i => (i.reg, i.x)).Perm own := by
  refine perm_of_mem ?_ (nodup_of_map (·.1) C.ond) fun p => ?_
  · refine nodup_of_map (fun p : Int × Nat => p.2) ?_
    rw [List.map_map]
    exact nodup_filter_map (fun i : IR => i.x) _ C.xnd
  · constructor
    · intro h
      obtain ⟨i, hi, rfl⟩ := List.mem_map.mp h
      obtain ⟨h1, h2⟩ := List.mem_filter.mp hi
      rcases C.i2 i h1 with ⟨_, b⟩ | ⟨a, _⟩
      · exact b
      · rw [of_decide_eq_true h2] at a; exact absurd a reg_ne_spill
    · intro h
      obtain ⟨v, hv, e1, e2, e3⟩ := C.o2i p h
      exact List.mem_map.mpr ⟨v, List.mem_filter.mpr ⟨hv, decide_eq_true e3⟩, by rw [e1, e2]⟩
theorem Core.spl_perm (C : Core cnt its own spl) : ((splItems its).map fun i => (i.slot, i.x)).Perm spl := by
  refine perm_of_mem ?_ (nodup_of_map (·.1) C.snd) fun p => ?_
  · refine nodup_of_map (fun p : Int × Nat => p.2) ?_
    rw [List.map_map]
    exact nodup_filter_map (fun i : IR => i.x) _ C.xnd
  · constructor
    · intro h
      obtain ⟨i, hi, rfl⟩ := List.mem_map.mp h
      obtain ⟨h1, h2⟩ := List.mem_filter.mp hi
      rcases C.i2 i h1 with ⟨a, _⟩ | ⟨_, _, b⟩
      · rw [of_decide_eq_true h2] at a; exact absurd a spill_ne_reg
      · exact b
    · intro h
      obtain ⟨v, hv, e1, e2, e3, _⟩ := C.s2i p h
      exact List.mem_map.mpr ⟨v, List.mem_filter.mpr ⟨hv, decide_eq_true e3⟩, by rw [e1, e2]⟩
theorem Core.own_le (C : Core cnt its own spl) (h : cnt ≤ 7) : own.length ≤ 7 := by
  have := nodup_le 7 C.ond fun x hx => by
    obtain ⟨p, hp, rfl⟩ := List.mem_map.mp hx
    have := C.okey p hp
    omega
  rwa [List.length_map] at this
end
end
end
section
open PySem PySem.W PySem.Calls PyProof.Rows PySem.Spec
section
/-- the fixed objects of the law's own frame -/
structure Fx where
  K : Kst
  row : Nat
  tx : Nat
  tdx : Nat
  ro : Nat
  rg : Nat
  wd : Nat
  lv : Nat
  c1 : Nat
  c2 : Nat
structure Fx.Ok (X : Fx) : Prop where
  O : X.K.Ok
  p0 : 100 < X.c1
  p1 : X.c1 < X.c2
  p2 : X.c2 < X.row
  p3 : X.row < X.tdx
  p4 : X.tdx < X.tx
  p5 : X.tx < X.K.cd
  p6 : X.K.mp < X.ro
  p7 : X.ro < X.K.rt
  p8 : X.K.sd < X.rg
  p9 : X.rg < X.wd
  p10 : X.wd < X.lv
abbrev topL (X : Fx) (rgO wdO : Obj) (lvV : List Value) (lvN : Nat) (rowV : List Value) (rowN : Nat) (o1 o2 : Obj) (roV : List Value) (roN : Nat) (tes : List DictEntry) (tnn : Nat) (rest : List (Addr × Obj)) : List (Addr × Obj) :=
  (X.rg, rgO) :: (X.wd, wdO) :: (X.lv, listOf lvV.toArray lvN) :: (X.row, listOf rowV.toArray rowN) :: (X.c1, o1) :: (X.c2, o2) :: (X.ro, listOf roV.toArray roN) :: (X.tx, instObj 423 X.tdx) :: (X.tdx, dictOf tes tnn) :: rest
abbrev Fx.keys (X : Fx) : List Nat := [X.rg, X.wd, X.lv, X.row, X.c1, X.c2, X.ro, X.tx, X.tdx]
theorem Fx.Ok.inc {X : Fx} (O : X.Ok) : [X.c1, X.c2, X.row, X.tdx, X.tx, X.ro, X.rg, X.wd, X.lv].Pairwise (· < ·) :=
    Up.pairwise ⟨O.p1, O.p2, O.p3, O.p4, by
      have h := List.pairwise_cons.mp O.O.up
      exact Nat.lt_trans O.p5 (Nat.lt_trans (h.1 X.K.mp (by simp)) O.p6), Nat.lt_trans (Nat.lt_of_lt_of_le O.p7 (O.O.le_sd (by simp [Kst.all]))) O.p8, O.p9, O.p10, trivial⟩
theorem Fx.Ok.nodup {X : Fx} (O : X.Ok) : X.keys.Nodup := by
  have u := O.inc
  have n : [X.c1, X.c2, X.row, X.tdx, X.tx, X.ro, X.rg, X.wd, X.lv].Nodup := u.imp fun h => Nat.ne_of_lt h
  have p : List.Perm ([X.c1, X.c2, X.row, X.tdx, X.tx, X.ro] ++ [X.rg, X.wd, X.lv]) ([X.rg, X.wd, X.lv] ++ [X.row, X.c1, X.c2, X.ro, X.tx, X.tdx]) :=
    List.perm_append_comm.trans (List.Perm.append_left _ (((List.Perm.cons _ (List.Perm.swap _ _ _)).trans (List.Perm.swap _ _ _)).trans (.cons _ (.cons _ (.cons _
      ((List.Perm.cons _ (List.Perm.swap _ _ _)).trans ((List.Perm.swap _ _ _).trans (.cons _ (List.Perm.swap _ _ _)))))))))
  exact p.nodup_iff.mp n
theorem Fx.Ok.off {X : Fx} (O : X.Ok) : ∀ a ∈ X.keys, Off X.K a := by
  intro a ha
  have hO := kOk_facts O.O
  obtain ⟨_, _, p1, p2, p3, p4, p5, p6, p7, p8, p9, p10⟩ := O
  simp only [Fx.keys, List.mem_cons, List.not_mem_nil, or_false] at ha
  have lt : ∀ b, b < X.K.cd → Off X.K b := fun b hb => off_lt (by assumption) hb
  rcases ha with rfl | rfl | rfl | rfl | rfl | rfl | rfl | rfl | rfl
  · exact .inr p8
  · exact .inr (Nat.lt_trans p8 p9)
  · exact .inr (Nat.lt_trans p8 (Nat.lt_trans p9 p10))
  · exact lt _ (Nat.lt_trans p3 (Nat.lt_trans p4 p5))
  · exact lt _ (Nat.lt_trans p1 (Nat.lt_trans p2 (Nat.lt_trans p3 (Nat.lt_trans p4 p5))))
  · exact lt _ (Nat.lt_trans p2 (Nat.lt_trans p3 (Nat.lt_trans p4 p5)))
  · refine .inl fun z hz => ?_
    simp only [Kst.all, List.mem_cons, List.not_mem_nil, or_false] at hz
    rcases hz with rfl | rfl | rfl | rfl | rfl | rfl | rfl | rfl | rfl | rfl | rfl | rfl | rfl | rfl <;> omega
  · exact lt _ p5
  · exact lt _ (Nat.lt_trans p4 p5)
theorem cells_nd {A B : List Nat} (ha : A.Nodup) (hb : B.Nodup) (h : ∀ a ∈ A, ∀ b ∈ B, a ≠ b) : (A ++ B).Nodup := List.nodup_append.mpr ⟨ha, hb, h⟩
section
variable {X : Fx} {rgO wdO rgO' wdO' : Obj} {lvV rowV lvV' rowV' : List Value} {lvN rowN lvN' rowN' : Nat} {o1 o2 o1' o2' : Obj} {roV : List Value} {roN : Nat} {tes : List DictEntry} {tnn : Nat} {rest rest' : List (Addr × Obj)}
  {K : Kst} {cE : List DictEntry} {cN : Nat} {rV : List Value} {rN : Nat} {oO : Obj} {dV : List Value} {dN : Nat} {mO : Obj} {tV : List Value} {tN : Nat} {fV : List Value} {fN : Nat} {sO : Obj}
theorem upd_rg (O : X.Ok) (hr : ∀ p ∈ rest, p.1 ≠ X.rg) : UpdF X.rg rgO (coreL X.K cE cN rV rN oO dV dN mO tV tN fV fN sO (topL X rgO wdO lvV lvN rowV rowN o1 o2 roV roN tes tnn rest)) (fun o => coreL X.K cE cN rV rN oO dV dN mO tV tN fV fN sO (topL X o wdO lvV lvN rowV rowN o1 o2 roV roN tes tnn rest)) :=
  updF_core (rest' := []) (off_all O.O (O.off _ (.head _))) (updF_of (A := []) (B := [(X.wd, wdO), (X.lv, listOf lvV.toArray lvN), (X.row, listOf rowV.toArray rowN), (X.c1, o1), (X.c2, o2), (X.ro, listOf roV.toArray roN), (X.tx, instObj 423 X.tdx), (X.tdx, dictOf tes tnn)]) O.nodup hr)
theorem upd_wd (O : X.Ok) (hr : ∀ p ∈ rest, p.1 ≠ X.wd) : UpdF X.wd wdO (coreL X.K cE cN rV rN oO dV dN mO tV tN fV fN sO (topL X rgO wdO lvV lvN rowV rowN o1 o2 roV roN tes tnn rest)) (fun o => coreL X.K cE cN rV rN oO dV dN mO tV tN fV fN sO (topL X rgO o lvV lvN rowV rowN o1 o2 roV roN tes tnn rest)) :=
  updF_core (rest' := []) (off_all O.O (O.off _ (.tail _ (.head _)))) (updF_of (A := [(X.rg, rgO)]) (B := [(X.lv, listOf lvV.toArray lvN), (X.row, listOf rowV.toArray rowN), (X.c1, o1), (X.c2, o2), (X.ro, listOf roV.toArray roN), (X.tx, instObj 423 X.tdx), (X.tdx, dictOf tes tnn)]) O.nodup hr)
theorem upd_c1 (O : X.Ok) (hr : ∀ p ∈ rest, p.1 ≠ X.c1) : UpdF X.c1 o1 (coreL X.K cE cN rV rN oO dV dN mO tV tN fV fN sO (topL X rgO wdO lvV lvN rowV rowN o1 o2 roV roN tes tnn rest)) (fun o => coreL X.K cE cN rV rN oO dV dN mO tV tN fV fN sO (topL X rgO wdO lvV lvN rowV rowN o o2 roV roN tes tnn rest)) :=
  updF_core (rest' := []) (off_all O.O (O.off _ (.tail _ (.tail _ (.tail _ (.tail _ (.head _))))))) (updF_of (A := [(X.rg, rgO), (X.wd, wdO), (X.lv, listOf lvV.toArray lvN), (X.row, listOf rowV.toArray rowN)]) (B := [(X.c2, o2), (X.ro, listOf roV.toArray roN), (X.tx, instObj 423 X.tdx), (X.tdx, dictOf tes tnn)]) O.nodup hr)
theorem upd_c2 (O : X.Ok) (hr : ∀ p ∈ rest, p.1 ≠ X.c2) : UpdF X.c2 o2 (coreL X.K cE cN rV rN oO dV dN mO tV tN fV fN sO (topL X rgO wdO lvV lvN rowV rowN o1 o2 roV roN tes tnn rest)) (fun o => coreL X.K cE cN rV rN oO dV dN mO tV tN fV fN sO (topL X rgO wdO lvV lvN rowV rowN o1 o roV roN tes tnn rest)) :=
  updF_core (rest' := []) (off_all O.O (O.off _ (.tail _ (.tail _ (.tail _ (.tail _ (.tail _ (.head _)))))))) (updF_of (A := [(X.rg, rgO), (X.wd, wdO), (X.lv, listOf lvV.toArray lvN), (X.row, listOf rowV.toArray rowN), (X.c1, o1)]) (B := [(X.ro, listOf roV.toArray roN), (X.tx, instObj 423 X.tdx), (X.tdx, dictOf tes tnn)]) O.nodup hr)
theorem upd_lv (O : X.Ok) (hr : ∀ p ∈ rest, p.1 ≠ X.lv) : Upd X.lv (listOf lvV.toArray lvN) (listOf lvV'.toArray lvN') (coreL X.K cE cN rV rN oO dV dN mO tV tN fV fN sO (topL X rgO wdO lvV lvN rowV rowN o1 o2 roV roN tes tnn rest)) (coreL X.K cE cN rV rN oO dV dN mO tV tN fV fN sO (topL X rgO wdO lvV' lvN' rowV rowN o1 o2 roV roN tes tnn rest)) :=
  upd_core (off_all O.O (O.off _ (.tail _ (.tail _ (.head _))))) (upd_of (A := [(X.rg, rgO), (X.wd, wdO)]) (B := [(X.row, listOf rowV.toArray rowN), (X.c1, o1), (X.c2, o2), (X.ro, listOf roV.toArray roN), (X.tx, instObj 423 X.tdx), (X.tdx, dictOf tes tnn)]) O.nodup hr)
theorem upd_row (O : X.Ok) (hr : ∀ p ∈ rest, p.1 ≠ X.row) : Upd X.row (listOf rowV.toArray rowN) (listOf rowV'.toArray rowN') (coreL X.K cE cN rV rN oO dV dN mO tV tN fV fN sO (topL X rgO wdO lvV lvN rowV rowN o1 o2 roV roN tes tnn rest)) (coreL X.K cE cN rV rN oO dV dN mO tV tN fV fN sO (topL X rgO wdO lvV lvN rowV' rowN' o1 o2 roV roN tes tnn rest)) :=
  upd_core (off_all O.O (O.off _ (.tail _ (.tail _ (.tail _ (.head _)))))) (upd_of (A := [(X.rg, rgO), (X.wd, wdO), (X.lv, listOf lvV.toArray lvN)]) (B := [(X.c1, o1), (X.c2, o2), (X.ro, listOf roV.toArray roN), (X.tx, instObj 423 X.tdx), (X.tdx, dictOf tes tnn)]) O.nodup hr)
theorem top_its {h₀ h : Heap} {L : Addr} {its : List IR} {junk : List (Addr × Obj)} (N : News h₀ L h (coreL X.K cE cN rV rN oO dV dN mO tV tN fV fN sO (topL X rgO wdO lvV lvN rowV rowN o1 o2 roV roN tes tnn (itL X.K.h its ++ junk)))) :
    News h₀ L h (coreL X.K cE cN rV rN oO dV dN mO tV tN fV fN sO (itL X.K.h its ++ topL X rgO wdO lvV lvN rowV rowN o1 o2 roV roN tes tnn junk)) := by
  refine core_sub N fun p hp => ?_
  show p ∈ topL X rgO wdO lvV lvN rowV rowN o1 o2 roV roN tes tnn [] ++ (itL X.K.h its ++ junk)
  rcases List.mem_append.mp hp with q | q
  · exact List.mem_append_right _ (List.mem_append_left _ q)
  · rcases List.mem_append.mp (show p ∈ topL X rgO wdO lvV lvN rowV rowN o1 o2 roV roN tes tnn [] ++ junk from q) with q | q
    · exact List.mem_append_left _ q
    · exact List.mem_append_right _ (List.mem_append_right _ q)
theorem its_top {h₀ h : Heap} {L : Addr} {its : List IR} {junk junk' : List (Addr × Obj)} (N : News h₀ L h (coreL X.K cE cN rV rN oO dV dN mO tV tN fV fN sO (itL X.K.h its ++ junk')))
    (hs : ∀ p ∈ topL X rgO wdO lvV lvN rowV rowN o1 o2 roV roN tes tnn junk, p ∈ junk') :
    News h₀ L h (coreL X.K cE cN rV rN oO dV dN mO tV tN fV fN sO (topL X rgO wdO lvV lvN rowV rowN o1 o2 roV roN tes tnn (itL X.K.h its ++ junk))) := by
  refine core_sub N fun p hp => ?_
  rcases List.mem_append.mp (show p ∈ topL X rgO wdO lvV lvN rowV rowN o1 o2 roV roN tes tnn [] ++ (itL X.K.h its ++ junk) from hp) with q | q
  · exact List.mem_append_right _ (hs p (show p ∈ topL X rgO wdO lvV lvN rowV rowN o1 o2 roV roN tes tnn [] ++ junk from List.mem_append_left _ q))
  · rcases List.mem_append.mp q with q | q
    · exact List.mem_append_left _ q
    · exact List.mem_append_right _ (hs p (show p ∈ topL X rgO wdO lvV lvN rowV rowN o1 o2 roV roN tes tnn [] ++ junk from List.mem_append_right _ q))
end
section
variable {M : Model} {A : Around} {E : Value → Shared → Prop} {s : Shared} {env : Env}
theorem wp_cut {Γ} {QQ : Flow → Pos → Shared → Prop} {EE : Value → Pos → Shared → Prop} : ∀ {l : List Stmt} (n : Nat) (p : Pos) (s : Shared), Sem.wp M Γ (execs (l.take n) env) (fun f p' s' => match f with | .next => Sem.wp M Γ (execs (l.drop n) env) QQ EE p' s' | f => QQ f p' s') EE p s → Sem.wp M Γ (execs l env) QQ EE p s
  | [], n, p, s, h => by simpa [execs] using h
  | a :: l, 0, p, s, h => h
  | a :: l, n + 1, p, s, h => by
    rw [List.take_succ_cons, execs_cons, Sem.wp_bind'] at h
    rw [execs_cons, Sem.wp_bind']
    refine Sem.wp_mono M Γ _ (fun f p' s' hf => ?_) (fun _ _ _ h' => h') p s h
    cases f with
    | next => exact wp_cut n p' s' hf
    | _ => exact hf
theorem execs_cut {l : List Stmt} (n : Nat) {Q : Flow → Shared → Prop} (h : wpAny M A (execs (l.take n) env) (fun f s' => match f with | .next => wpAny M A (execs (l.drop n) env) Q E s' | f => Q f s') E s) : wpAny M A (execs l env) Q E s := fun Γ p hΓ => by
  refine wp_cut n p s (Sem.wp_mono M Γ _ (fun f p' s' hf => ?_) (fun _ _ _ h' => h') p s (h Γ p hΓ))
  cases f with
  | next => exact hf Γ p' hΓ
  | _ => exact hf
end
end
end
section
open PySem PySem.W PySem.Calls PyProof.Rows PySem.Spec
section
def isP (its : List IR) (q : IR → Bool) : Value → Bool
  | .ref x => its.any fun i => decide (i.x = x) && q i
  | _ => false
theorem isP_at {its : List IR} {q : IR → Bool} (hnd : (its.map (·.x)).Nodup) {i : IR} (hi : i ∈ its) : isP its q (.ref i.x) = q i := by
  unfold isP
  cases hq : q i with
  | true => exact List.any_eq_true.mpr ⟨i, hi, by simp [hq]⟩
  | false =>
    rw [List.any_eq_false]
    intro j hj
    by_cases e : j.x = i.x
    · rw [one_x hnd hj hi e]; simp [hq]
    · simp [e]
theorem filter_isP {its : List IR} {q : IR → Bool} (hnd : (its.map (·.x)).Nodup) : ∀ {l : List IR}, (∀ i ∈ l, i ∈ its) → (l.map fun i => Value.ref i.x).filter (isP its q) = (l.filter q).map fun i => Value.ref i.x
  | [], _ => rfl
  | i :: l, h => by
    have e := isP_at (q := q) hnd (h i (.head _))
    have ih := filter_isP (q := q) hnd fun j hj => h j (.tail _ hj)
    simp only [List.map_cons, List.filter_cons, e, ih]
    split <;> rfl
theorem paired_its {its : List IR} {f : IR → Value} (hnd : (its.map (·.x)).Nodup) : ∀ {l : List IR} {ys : List Value}, (∀ i ∈ l, i ∈ its) → Paired (fun v y => ∃ i ∈ its, v = Value.ref i.x ∧ y = f i) (l.map fun i => Value.ref i.x) ys → ys = l.map f
  | [], _, _, h => by cases h; rfl
  | i :: l, _, hs, h => by
    cases h with
    | cons h1 h2 =>
      obtain ⟨j, hj, e, rfl⟩ := h1
      have := one_x hnd (hs i (.head _)) hj (by injection e)
      subst this
      rw [paired_its hnd (fun k hk => hs k (.tail _ hk)) h2]
      rfl
section
variable {prog : Program} {w : World} {A : Around} {E : Value → Shared → Prop} {s : Shared} {env : Env}
theorem items_comp {scope : Scope} {cl : List (Str × Addr)} {x : Str} {ifs : List Expr} {elt : Expr} {Q : Value → Shared → Prop} {l n : Nat} {h₀ : Heap} {m : Str → Option Value} {news : List (Addr × Obj)} {its lst : List IR} (q : IR → Bool) (f : IR → Value)
    (hnd : (its.map (·.x)).Nodup) (hsub : ∀ i ∈ lst, i ∈ its) (F : Fr h₀ env.locals s.heap m) (N : News h₀ env.locals s.heap news) (hl : (l, listOf (lst.map fun i => Value.ref i.x).toArray n) ∈ news) (hz : lst.length ≤ 100000)
    (ht : ∀ C i s₃ E', i ∈ lst → Blk h₀ env.locals m news C x (.ref i.x) s₃ → wpAny (model prog w) A (forIn ifs true fun c r => if r = true then do let ok ← isTrue c (compEnvC scope cl C env) (eval c (compEnvC scope cl C env)); pure (ForInStep.yield ok) else pure (ForInStep.yield r)) (fun ok s₄ => ok = q i ∧ Keeps s₃ s₄) E' s₃)
    (he : ∀ C i s₃ E', i ∈ lst → q i = true → Blk h₀ env.locals m news C x (.ref i.x) s₃ → wpAny (model prog w) A (eval elt (compEnvC scope cl C env)) (fun y s₄ => y = f i ∧ Keeps s₃ s₄) E' s₃)
    (hq : ∀ D h' tk n', Fr h₀ env.locals h' m → News h₀ env.locals h' ((D, listOf ((lst.filter q).map f).toArray n') :: news) → (∀ p ∈ news, p.1 ≠ D) → Q (.ref D) { s with heap := h', toks := tk }) :
    CompGoal prog w A env scope cl x ifs elt (isP its q) (fun v y => ∃ i ∈ its, v = Value.ref i.x ∧ y = f i) Q (.ref l) s := by
  refine ⟨l, lst.map fun i => Value.ref i.x, n, h₀, m, news, rfl, F, N, hl, by rw [List.length_map]; exact hz, ?_, ?_, ?_⟩
  · intro C v s₃ E' hv hb
    obtain ⟨i, hi, rfl⟩ := List.mem_map.mp hv
    rw [isP_at hnd (hsub i hi)]
    exact ht C i s₃ E' hi hb
  · intro C v s₃ E' hv hp hb
    obtain ⟨i, hi, rfl⟩ := List.mem_map.mp hv
    rw [isP_at hnd (hsub i hi)] at hp
    exact wpAny_mono (he C i s₃ E' hi hp hb) (fun y s₄ g => ⟨⟨i, hsub i hi, rfl, g.1⟩, g.2⟩) fun _ _ e => e
  · intro D h' tk ys n' F' N' hD hp
    rw [filter_isP hnd hsub] at hp
    have := paired_its hnd (fun i hi => hsub i (List.mem_filter.mp hi).1) hp
    subst this
    exact hq D h' tk n' F' N' hD
def AsgGoal (prog : Program) (w : World) (A : Around) (env : Env) (scope : Scope) (cl : List (Str × Addr)) (x : Str) (ifs : List Expr) (elt : Expr) (p : Value → Bool) (F : Value → Value → Prop) (y : Str) (Q : Flow → Shared → Prop) (xv : Value) (s₁ : Shared) : Prop :=
  ∃ (l : Addr) (vs : List Value) (n : Nat) (h₀ : Heap) (m : Str → Option Value) (news : List (Addr × Obj)), xv = .ref l ∧ Fr h₀ env.locals s₁.heap m ∧ News h₀ env.locals s₁.heap news ∧ (l, listOf vs.toArray n) ∈ news ∧ vs.length ≤ 100000 ∧
    (∀ C v s₃ E', v ∈ vs → Blk h₀ env.locals m news C x v s₃ → wpAny (model prog w) A (forIn ifs true fun c r => if r = true then do let ok ← isTrue c (compEnvC scope cl C env) (eval c (compEnvC scope cl C env)); pure (ForInStep.yield ok) else pure (ForInStep.yield r))
      (fun ok s₄ => ok = p v ∧ Keeps s₃ s₄) E' s₃) ∧
    (∀ C v s₃ E', v ∈ vs → p v = true → Blk h₀ env.locals m news C x v s₃ → wpAny (model prog w) A (eval elt (compEnvC scope cl C env)) (fun y s₄ => F v y ∧ Keeps s₃ s₄) E' s₃) ∧
    (∀ D h' tk ys n', Fr h₀ env.locals h' (fun z => if z = y then some (.ref D) else m z) → News h₀ env.locals h' ((D, listOf ys.toArray n') :: news) → (∀ p ∈ news, p.1 ≠ D) → Paired F (vs.filter p) ys → Q .next { s₁ with heap := h', toks := tk })
theorem lc_asg {elt iter : Expr} {x y : Str} {px py spos : Pos} {ifs : List Expr} {scope : Scope} {cl : List (Str × Addr)} {pos : Pos} {Q : Flow → Shared → Prop} (p : Value → Bool) (F : Value → Value → Prop) (hh : A.handled = none)
    (hclos : closureFor scope env = pure cl) (hcell : ∀ y ∈ scope.names, y.2 ≠ .cell) (hkind : scope.kind = .function)
    (hnames : ∀ y ∈ scope.names, y.2 = .local → scope.names.lookup y.1 = some .local) (hx : scope.names.lookup x = some .local) (hs : ∀ x, foldedSetIterable iter env x = pure x) (hsw : swapsWith (.ListComp elt [⟨.Name x px, iter, ifs, 0⟩] scope pos) (some (.Name y py)) spos.line env = pure true) (hy : env.kindOf y = some .local) (hpk : (env.scope.kind == .class || (env.scope.kind == .module && env.locals != env.globals)) = false)
    (h : wpAny (model prog w) A (eval iter env) (AsgGoal prog w A env scope cl x ifs elt p F y Q) E s) :
    wpAny (model prog w) A (exec (.Assign [.Name y py] (.ListComp elt [⟨.Name x px, iter, ifs, 0⟩] scope pos) spos) env) Q E s := by
  refine wpAny_Assign_ListComp_free p F hsw hclos hcell hkind hnames hx hy hpk (wpAny_mono h (fun xv s₁ g => ?_) fun _ _ e => e) hs
  obtain ⟨l, vs, n, h₀, m, news, rfl, F₁, N₁, hl, hz, ht, he, hq⟩ := g
  have hgl := N₁ _ hl
  have hls : s₁.heap.IsList l vs.toArray := ⟨_, hgl.1, rfl, n, rfl⟩
  have hlt : l < s₁.heap.objs.size := Heap.lt_size hgl.1
  refine wpAny_pyIter_list hls ?_
  have W := Walks.list (prog := prog) (w := w) hh s₁.heap.objs.size l (Nat.ne_of_lt hlt) vs.toArray
  have up : ∀ h' : Heap, (∀ b o, b ∉ [s₁.heap.objs.size] → (s₁.heap.push { cls := .type "list_iterator", data := .fields #[.ref l, rawInt 0] }).get? b = some o → h'.get? b = some o) → ∀ b o, s₁.heap.get? b = some o → h'.get? b = some o := by
    intro h' hk b o e
    refine hk b o (fun hm => ?_) (Heap.get?_push_of_some _ e)
    exact absurd (Heap.lt_size e) ((List.mem_singleton.mp hm) ▸ Nat.lt_irrefl _)
  have blk : ∀ C v (s₃ : Shared) m₃, s₃.heap.Ns C m₃ → m₃ x = some v → (∀ b o, s₁.heap.get? b = some o → s₃.heap.get? b = some o) → Blk h₀ env.locals m news C x v s₃ := fun C v s₃ m₃ a b k => ⟨⟨m₃, a, b⟩, F₁.keeps k, N₁.grown k⟩
  refine ⟨_, _, _, _, _, _, m, rfl, W, by rw [List.size_toArray]; exact szOk hz, ⟨⟨_, Heap.get?_push_size _ rfl, rfl, rfl⟩, hls.at fun o e => Heap.get?_push_of_some _ e⟩, ?_, ?_, (F₁.push _).ns, ⟨?_, ?_⟩, ?_⟩
  · intro b hb
    rw [Heap.size_push]
    rcases List.mem_cons.mp hb with rfl | hb
    · exact Nat.lt_succ_self _
    · rw [List.mem_singleton.mp hb]; exact Nat.lt_succ_of_lt hlt
  · intro hm
    exact absurd F₁.ns.lt ((List.mem_singleton.mp hm) ▸ Nat.lt_irrefl _)
  · intro C i v s₃ m₃ E' _ hP hn hm hk _
    exact ht C v s₃ E' (by have : vs[i]? = some v := by simpa using hP
                           exact List.mem_of_getElem? this) (blk C v s₃ m₃ hn hm (up _ hk))
  · intro C i v s₃ m₃ E' _ hP hpv hn hm hk _
    exact he C v s₃ E' (by have : vs[i]? = some v := by simpa using hP
                           exact List.mem_of_getElem? this) hpv (blk C v s₃ m₃ hn hm (up _ hk))
  · intro D h' tk ys vs' hD hL hpl hlen hP hF hns hk
    have evs : vs' = vs := by
      refine List.ext_getElem? fun j => ?_
      by_cases hj : j < vs'.length
      · have h1 : vs'[j]? = some vs'[j] := List.getElem?_eq_getElem hj
        have h2 := hP j _ h1
        rw [h1]
        have : vs[j]? = some vs'[j] := by simpa using h2
        exact this.symm
      · rw [List.getElem?_eq_none (by omega), List.getElem?_eq_none (by rw [List.size_toArray] at hlen; omega)]
    subst evs
    obtain ⟨n', hDo⟩ := hpl
    have hD1 : s₁.heap.get? D = none := by
      cases e : s₁.heap.get? D with
      | none => rfl
      | some o => rw [Heap.get?_push_of_some _ e] at hD; cases hD
    have kk : ∀ b o, b ≠ env.locals → s₁.heap.get? b = some o → h'.get? b = some o := fun b o hb e =>
      hk b o hb (fun hm => absurd (Heap.lt_size e) ((List.mem_singleton.mp hm) ▸ Nat.lt_irrefl _)) (Heap.get?_push_of_some _ e)
    refine hq D h' tk ys.toList n' ⟨hns, fun b o e => kk b o (fun e' => absurd (Heap.lt_size e) (by rw [e']; exact Nat.not_lt.mpr F₁.above)) (F₁.keep b o e), F₁.above⟩ (fun q hq => ?_) (fun q hq e => ?_) hF
    · rcases List.mem_cons.mp hq with rfl | hq
      · refine ⟨by simpa using hDo, ?_, ?_⟩
        · rintro rfl
          obtain ⟨o, _, _, ho, _⟩ := F₁.ns
          rw [hD1] at ho; cases ho
        · cases e : h₀.get? D with
          | none => rfl
          | some o => rw [F₁.keep D o e] at hD1; cases hD1
      · have z := N₁ q hq
        exact ⟨kk _ _ z.2.1 z.1, z.2⟩
    · have := (N₁ q hq).1
      rw [e, hD1] at this
      cases this
theorem items_asg {scope : Scope} {cl : List (Str × Addr)} {x : Str} {ifs : List Expr} {elt : Expr} {y : Str} {Q : Flow → Shared → Prop} {l n : Nat} {h₀ : Heap} {m : Str → Option Value} {news : List (Addr × Obj)} {its lst : List IR} (q : IR → Bool) (f : IR → Value)
    (hnd : (its.map (·.x)).Nodup) (hsub : ∀ i ∈ lst, i ∈ its) (F : Fr h₀ env.locals s.heap m) (N : News h₀ env.locals s.heap news) (hl : (l, listOf (lst.map fun i => Value.ref i.x).toArray n) ∈ news) (hz : lst.length ≤ 100000)
    (ht : ∀ C i s₃ E', i ∈ lst → Blk h₀ env.locals m news C x (.ref i.x) s₃ → wpAny (model prog w) A (forIn ifs true fun c r => if r = true then do let ok ← isTrue c (compEnvC scope cl C env) (eval c (compEnvC scope cl C env)); pure (ForInStep.yield ok) else pure (ForInStep.yield r)) (fun ok s₄ => ok = q i ∧ Keeps s₃ s₄) E' s₃)
    (he : ∀ C i s₃ E', i ∈ lst → q i = true → Blk h₀ env.locals m news C x (.ref i.x) s₃ → wpAny (model prog w) A (eval elt (compEnvC scope cl C env)) (fun y s₄ => y = f i ∧ Keeps s₃ s₄) E' s₃)
    (hq : ∀ D h' tk n', Fr h₀ env.locals h' (fun z => if z = y then some (.ref D) else m z) → News h₀ env.locals h' ((D, listOf ((lst.filter q).map f).toArray n') :: news) → (∀ p ∈ news, p.1 ≠ D) → Q .next { s with heap := h', toks := tk }) :
    AsgGoal prog w A env scope cl x ifs elt (isP its q) (fun v y => ∃ i ∈ its, v = Value.ref i.x ∧ y = f i) y Q (.ref l) s := by
  refine ⟨l, lst.map fun i => Value.ref i.x, n, h₀, m, news, rfl, F, N, hl, by rw [List.length_map]; exact hz, ?_, ?_, ?_⟩
  · intro C v s₃ E' hv hb
    obtain ⟨i, hi, rfl⟩ := List.mem_map.mp hv
    rw [isP_at hnd (hsub i hi)]
    exact ht C i s₃ E' hi hb
  · intro C v s₃ E' hv hp hb
    obtain ⟨i, hi, rfl⟩ := List.mem_map.mp hv
    rw [isP_at hnd (hsub i hi)] at hp
    exact wpAny_mono (he C i s₃ E' hi hp hb) (fun y s₄ g => ⟨⟨i, hsub i hi, rfl, g.1⟩, g.2⟩) fun _ _ e => e
  · intro D h' tk ys n' F' N' hD hp
    rw [filter_isP hnd hsub] at hp
    have := paired_its hnd (fun i hi => hsub i (List.mem_filter.mp hi).1) hp
    subst this
    exact hq D h' tk n' F' N' hD
/-- one turn of a block: where all else stood is still so -/
theorem Blk.keeps {h₀ : Heap} {L : Addr} {m : Str → Option Value} {news : List (Addr × Obj)} {C : Addr} {x : Str} {v : Value} {s₃ s₄ : Shared} (h : Blk h₀ L m news C x v s₃) (k : Keeps s₃ s₄) : Fr h₀ L s₄.heap m ∧ News h₀ L s₄.heap news := by
  obtain ⟨h', tk, rfl, hk⟩ := k
  exact ⟨h.2.1.keeps hk, h.2.2.grown hk⟩
end
end
end
section
open PySem PySem.W PySem.Calls PyProof.Rows PySem.Spec
section
theorem ints_of_keys {prog : Program} {w : World} : ∀ {kvs : List (Int × Value)} {vs : List Value}, vs.length = kvs.length → (∀ (j : Nat) (v : Value), vs[j]? = some v → ∃ k x, kvs[j]? = some (k, x) ∧ (intKind prog w).is k v = true) → IntsAre vs (kvs.map (·.1))
  | [], [], _, _ => .nil
  | [], _ :: _, h, _ => by cases h
  | _ :: _, [], h, _ => by cases h
  | (k, x) :: kvs, v :: vs, h, hp => by
    obtain ⟨k', x', e, hk⟩ := hp 0 v rfl
    have e' : (k, x) = (k', x') := Option.some.inj e
    have ek : k = k' := (Prod.mk.inj e').1
    subst ek
    obtain ⟨t, rfl⟩ := PySem.Value.isInt_shape hk
    exact .cons k t (ints_of_keys (prog := prog) (w := w) (Nat.succ.inj h) fun j u hu => hp (j + 1) u hu)
section
variable {prog : Program} {w : World} {A : Around} {E : Value → Shared → Prop} {s : Shared} {env : Env} {h₀ : Heap} {L : Addr} {m : Str → Option Value} {news : List (Addr × Obj)}
theorem sorted_dict {d : Addr} {o : Obj} {kvs : List (Int × Value)} {Q : Value → Shared → Prop} (hh : A.handled = none) (F : Fr h₀ L s.heap m) (N : News h₀ L s.heap news) (hd : (d, o) ∈ news) (ho : o.IsDictOf (intKind prog w) kvs) (lo : (d == sysModules) = false) (h64 : kvs.length < 64)
    (h : ∀ D vs' ns' c h' tk, Fr h₀ L h' m → News h₀ L h' ((D, listOf (List.toArray vs') c) :: news) → (∀ q ∈ news, q.1 < D) → IntsAre vs' ns' → ns'.Perm (kvs.map (·.1)) → ns'.Pairwise (· ≤ ·) → Q (.ref D) { s with heap := h', toks := tk }) :
    wpAny (model prog w) A (call (.builtin "sorted") [.ref d]) Q E s := by
  obtain ⟨ep, ha⟩ := KdkAt.of ho
  have hat := ha.dictAt (N _ hd).1
  refine kdu_sorted (kdl_dict (knd := intKind prog w) (kvs := kvs) (ep := ep) lo) hh F N hat (kdl_size (by omega)) fun D h' tk vs F' N' l1 hlen hP => ?_
  have hi := ints_of_keys hlen hP
  refine ksk_lsort (s := { s with heap := h', toks := tk }) (news' := fun o => (D, o) :: news) F' N' (fun o => .head fun p hp => Nat.ne_of_lt (l1 p hp)) (by simp) hi (by rw [List.length_map]; exact h64) ?_
  intro vs' ns' c h2 F2 N2 hi' _ hp ho' _
  exact h D vs' ns' c h2 tk F2 N2 l1 hi' hp ho'
theorem stored_keys {FV : Value → Value → Prop} {l : List Value} {kvs : List (Int × Value)} (h : StoredAll (fun v k => ∃ t, v = Value.int k t) FV l kvs) : ∀ ns : List Int, IntsAre l ns → ns.Nodup → kvs.map (·.1) = ns := by
  induction h with
  | nil => intro ns hi _; cases hi; rfl
  | @snoc l kvs v k y h1 h2 h3 ih =>
    intro ns hi hnd
    obtain ⟨t, rfl⟩ := h2
    obtain ⟨ns0, k', rfl, hi0, hk⟩ : ∃ ns0 k', ns = ns0 ++ [k'] ∧ IntsAre l ns0 ∧ k' = k := by
      have hne : ns ≠ [] := by
        rintro rfl
        have := hi.length
        simp at this
      obtain ⟨va, x, t', e, ha, hl⟩ := ints_last hi hne
      have e2 := List.append_inj' e rfl
      obtain ⟨rfl, e3⟩ := e2
      injection e3 with e3
      injection e3 with e3
      refine ⟨ns.dropLast, x, ?_, ha, e3.symm⟩
      have := List.dropLast_concat_getLast hne
      rw [List.getLast?_eq_some_getLast hne] at hl
      rw [Option.some.inj hl] at this
      exact this.symm
    subst hk
    have hnd' := mid_nodup (a := ns0) (b := []) (by simpa using hnd)
    have e := ih ns0 hi0 (by simpa using hnd'.1)
    rw [stored_new (k := k') ?_ y, List.map_append, e]
    · rfl
    · cases hq : (valueAt kvs k').isSome with
      | false => rfl
      | true => exact absurd (e ▸ vA_mem.mp hq) hnd'.2.1
theorem dc_eval {kx vx iter : Expr} {x : Str} {px : Pos} {scope : Scope} {cl : List (Str × Addr)} {pos : Pos} {Q : Value → Shared → Prop} (FV : Value → Value → Prop) (hh : A.handled = none)
    (hclos : closureFor scope env = pure cl) (hcell : ∀ y ∈ scope.names, y.2 ≠ .cell) (hkind : scope.kind = .function)
    (hnames : ∀ y ∈ scope.names, y.2 = .local → scope.names.lookup y.1 = some .local) (hx : scope.names.lookup x = some .local) (hs : ∀ x, foldedSetIterable iter env x = pure x)
    (h : wpAny (model prog w) A (eval iter env) (fun xv s₁ => ∃ (l : Addr) (vs : List Value) (ns : List Int) (n : Nat) (h₀ : Heap) (m : Str → Option Value) (news : List (Addr × Obj)), xv = .ref l ∧ (∃ o, h₀.get? sysModules = some o) ∧ IntsAre vs ns ∧ ns.Nodup ∧ Fr h₀ env.locals s₁.heap m ∧ News h₀ env.locals s₁.heap news ∧ (l, listOf vs.toArray n) ∈ news ∧ vs.length ≤ 100000 ∧
      (∀ C v s₃ E', v ∈ vs → Blk h₀ env.locals m news C x v s₃ → wpAny (model prog w) A (eval kx (compEnvC scope cl C env)) (fun y s₄ => y = v ∧ Keeps s₃ s₄) E' s₃) ∧
      (∀ C v s₃ E', v ∈ vs → Blk h₀ env.locals m news C x v s₃ → wpAny (model prog w) A (eval vx (compEnvC scope cl C env)) (fun y s₄ => FV v y ∧ Keeps s₃ s₄) E' s₃) ∧
      (∀ D o h' tk kvs, Fr h₀ env.locals h' m → News h₀ env.locals h' ((D, o) :: news) → o.IsDictOf (intKind prog w) kvs → kvs.map (·.1) = ns → (D == sysModules) = false → Q (.ref D) { s₁ with heap := h', toks := tk })) E s) :
    wpAny (model prog w) A (eval (.DictComp kx vx [⟨.Name x px, iter, [], 0⟩] scope pos) env) Q E s := by
  refine wpAny_DictComp_free (intKind prog w) (fun _ => true) (fun v k => ∃ t, v = Value.int k t) FV hclos hcell hkind hnames hx (wpAny_mono h (fun xv s₁ g => ?_) fun _ _ e => e) hs
  obtain ⟨l, vs, ns, n, h₀, m, news, rfl, ⟨om, hom⟩, hi, hnd, F₁, N₁, hl, hz, hk, hv, hq⟩ := g
  have hgl := N₁ _ hl
  have hls : s₁.heap.IsList l vs.toArray := ⟨_, hgl.1, rfl, n, rfl⟩
  have hlt : l < s₁.heap.objs.size := Heap.lt_size hgl.1
  refine wpAny_pyIter_list hls ?_
  have W := Walks.list (prog := prog) (w := w) hh s₁.heap.objs.size l (Nat.ne_of_lt hlt) vs.toArray
  have up : ∀ h' : Heap, (∀ b o, b ∉ [s₁.heap.objs.size] → (s₁.heap.push { cls := .type "list_iterator", data := .fields #[.ref l, rawInt 0] }).get? b = some o → h'.get? b = some o) → ∀ b o, s₁.heap.get? b = some o → h'.get? b = some o := by
    intro h' hk b o e
    refine hk b o (fun hm => ?_) (Heap.get?_push_of_some _ e)
    exact absurd (Heap.lt_size e) ((List.mem_singleton.mp hm) ▸ Nat.lt_irrefl _)
  have blk : ∀ C v (s₃ : Shared) m₃, s₃.heap.Ns C m₃ → m₃ x = some v → (∀ b o, s₁.heap.get? b = some o → s₃.heap.get? b = some o) → Blk h₀ env.locals m news C x v s₃ := fun C v s₃ m₃ a b k => ⟨⟨m₃, a, b⟩, F₁.keeps k, N₁.grown k⟩
  refine ⟨_, _, _, _, _, _, rfl, W, by rw [List.size_toArray]; exact szOk hz, ⟨⟨_, Heap.get?_push_size _ rfl, rfl, rfl⟩, hls.at fun o e => Heap.get?_push_of_some _ e⟩, ?_, ⟨?_, ?_, ?_⟩, ?_⟩
  · intro b hb
    rw [Heap.size_push]
    rcases List.mem_cons.mp hb with rfl | hb
    · exact Nat.lt_succ_self _
    · rw [List.mem_singleton.mp hb]; exact Nat.lt_succ_of_lt hlt
  · intro C i v s₃ m₃ E' _ _ _ _
    exact wpAny_pure ⟨rfl, s₃.heap, s₃.toks, rfl, fun _ _ e => e⟩
  · intro C i v s₃ m₃ E' hP _ hn hm hk'
    have hv' : v ∈ vs := by have : vs[i]? = some v := by simpa using hP
                            exact List.mem_of_getElem? this
    refine wpAny_mono (hk C v s₃ E' hv' (blk C v s₃ m₃ hn hm (up _ hk'))) (fun y s₄ g => ⟨?_, g.2⟩) fun _ _ e => e
    obtain ⟨k, t, e, _⟩ := ints_mem hi hv'
    exact ⟨k, by rw [g.1, e]; exact intKind_is _ _ _ _, t, e⟩
  · intro C i v s₃ m₃ E' hP _ hn hm hk'
    exact hv C v s₃ E' (by have : vs[i]? = some v := by simpa using hP
                           exact List.mem_of_getElem? this) (blk C v s₃ m₃ hn hm (up _ hk'))
  · intro D h' tk kvs vs' hD hDo hlen hP hF hk'
    have evs : vs' = vs := by
      refine List.ext_getElem? fun j => ?_
      by_cases hj : j < vs'.length
      · have h1 : vs'[j]? = some vs'[j] := List.getElem?_eq_getElem hj
        have h2 := hP j _ h1
        rw [h1]
        have : vs[j]? = some vs'[j] := by simpa using h2
        exact this.symm
      · rw [List.getElem?_eq_none (by omega), List.getElem?_eq_none (by rw [List.size_toArray] at hlen; omega)]
    subst evs
    rw [List.filter_eq_self.mpr (fun _ _ => rfl)] at hF
    obtain ⟨o, hDo, hod⟩ := Heap.dictOf_iff.mp hDo
    have hD1 : s₁.heap.get? D = none := by
      cases e : s₁.heap.get? D with
      | none => rfl
      | some o => rw [Heap.get?_push_of_some _ e] at hD; cases hD
    have k1 := up _ hk'
    refine hq D o h' tk kvs (F₁.keeps k1) (fun q hq => ?_) hod (stored_keys hF ns hi hnd) ?_
    · rcases List.mem_cons.mp hq with rfl | hq
      · refine ⟨hDo, ?_, ?_⟩
        · rintro rfl
          obtain ⟨o, _, _, ho, _⟩ := F₁.ns
          rw [hD1] at ho; cases ho
        · cases e : h₀.get? D with
          | none => rfl
          | some o => rw [F₁.keep D o e] at hD1; cases hD1
      · exact (N₁.grown k1) q hq
    · have : D ≠ sysModules := by
        rintro rfl
        rw [F₁.keep _ _ hom] at hD1; cases hD1
      exact beq_eq_false_iff_ne.mpr this
end
end
end
section
open PySem PySem.W PySem.Calls PyProof.Rows
section
abbrev lawEnv (L f : Addr) (cd : Value) : Env := envOfC (Str.ofString "law") lawSc L f cd
abbrev cut (i n : Nat) : List Stmt := (lapB.drop i).take n
theorem no_imports : importsNone vw = true := by kernel_rfl
theorem has_sys {loose : List Str} {mean : ExcName → Option Value} {mg mb : Str → Option Value} {h : Heap} (T : Top vw loose mean mg mb h) : ∃ o, h.get? sysModules = some o := by
  obtain ⟨mm, ⟨o, _, _, ho, _⟩, _⟩ := (T.seer no_imports).mods
  exact ⟨o, ho⟩
theorem core_perm {K : Kst} : List.Perm [K.c, K.cd, K.b, K.bd, K.rw, K.p, K.pd, K.ow, K.od, K.sp, K.mp, K.rt, K.ft, K.sd] K.all :=
  (List.Perm.swap _ _ _).trans (.cons _ (.cons _ ((List.Perm.swap _ _ _).trans (.cons _ (.cons _ (.cons _ (List.Perm.swap _ _ _)))))))
section
variable {X : Fx} {rgO wdO o1 o2 : Obj} {lvV rowV : List Value} {lvN rowN : Nat} {roV : List Value} {roN : Nat} {tes : List DictEntry} {tnn : Nat} {its : List IR} {junk junk' : List (Addr × Obj)}
  {K : Kst} {cE : List DictEntry} {cN : Nat} {rV : List Value} {rN : Nat} {oO : Obj} {dV : List Value} {dN : Nat} {mO : Obj} {tV : List Value} {tN : Nat} {fV : List Value} {fN : Nat} {sO : Obj} {h₀ h : Heap} {L : Addr} {q : Addr × Obj}
theorem top_out {A B : List (Addr × Obj)} {e : Addr × Obj} (N : News h₀ L h (coreL K cE cN rV rN oO dV dN mO tV tN fV fN sO (A ++ e :: B))) : News h₀ L h (e :: coreL K cE cN rV rN oO dV dN mO tV tN fV fN sO (A ++ B)) := by
  refine News.sub N fun p hp => ?_
  rcases List.mem_cons.mp hp with rfl | hp
  · exact core_mem (List.mem_append_right _ (.head _))
  · rcases core_mem' hp with q | q
    · exact core_mem0 q
    · rcases List.mem_append.mp q with q | q
      · exact core_mem (List.mem_append_left _ q)
      · exact core_mem (List.mem_append_right _ (.tail _ q))
theorem top_in {A B : List (Addr × Obj)} {e : Addr × Obj} (N : News h₀ L h (e :: coreL K cE cN rV rN oO dV dN mO tV tN fV fN sO (A ++ B))) : News h₀ L h (coreL K cE cN rV rN oO dV dN mO tV tN fV fN sO (A ++ e :: B)) := by
  refine News.sub N fun p hp => ?_
  rcases core_mem' hp with q | q
  · exact .tail _ (core_mem0 q)
  · rcases List.mem_append.mp q with q | q
    · exact .tail _ (core_mem (List.mem_append_left _ q))
    · rcases List.mem_cons.mp q with rfl | q
      · exact .head _
      · exact .tail _ (core_mem (List.mem_append_right _ q))
theorem rest_ne (O : X.Ok) {k : Nat} (hk : k ∈ X.keys) {l : List (Addr × Obj)} (hl : ∀ p ∈ l, p.1 ≠ k) : ∀ p ∈ coreL X.K cE cN rV rN oO dV dN mO tV tN fV fN sO l, p.1 ≠ k := fun p hp => by
  rcases core_mem' hp with q | q
  · exact off_all O.O (O.off _ hk) _ (core_key q)
  · exact hl p q
theorem top_ne {A B rest : List (Addr × Obj)} {d : Addr} {o : Obj} (h : ((A ++ (d, o) :: B).map (·.1)).Nodup) (hr : ∀ p ∈ rest, p.1 ≠ d) : ∀ p ∈ A ++ (B ++ rest), p.1 ≠ d := fun p hp => by
  rcases List.mem_append.mp hp with q | q
  · exact (key_ne h hr).1 p q
  · exact (key_ne h hr).2 p q
theorem mem_shift {p : Addr × Obj} : p ∈ coreL X.K cE cN rV rN oO dV dN mO tV tN fV fN sO (itL X.K.h its ++ topL X rgO wdO lvV lvN rowV rowN o1 o2 roV roN tes tnn junk) ↔ p ∈ coreL X.K cE cN rV rN oO dV dN mO tV tN fV fN sO (topL X rgO wdO lvV lvN rowV rowN o1 o2 roV roN tes tnn (itL X.K.h its ++ junk)) := by
  show p ∈ coreL X.K cE cN rV rN oO dV dN mO tV tN fV fN sO [] ++ (itL X.K.h its ++ (topL X rgO wdO lvV lvN rowV rowN o1 o2 roV roN tes tnn [] ++ junk)) ↔ p ∈ coreL X.K cE cN rV rN oO dV dN mO tV tN fV fN sO [] ++ (topL X rgO wdO lvV lvN rowV rowN o1 o2 roV roN tes tnn [] ++ (itL X.K.h its ++ junk))
  generalize coreL X.K cE cN rV rN oO dV dN mO tV tN fV fN sO [] = a
  generalize topL X rgO wdO lvV lvN rowV rowN o1 o2 roV roN tes tnn [] = b
  simp only [List.mem_append]
  constructor
  · rintro (h | h | h | h)
    · exact .inl h
    · exact .inr (.inr (.inl h))
    · exact .inr (.inl h)
    · exact .inr (.inr (.inr h))
  · rintro (h | h | h | h)
    · exact .inl h
    · exact .inr (.inr (.inl h))
    · exact .inr (.inl h)
    · exact .inr (.inr (.inr h))
theorem mem_junk {p : Addr × Obj} (hp : p ∈ coreL X.K cE cN rV rN oO dV dN mO tV tN fV fN sO (topL X rgO wdO lvV lvN rowV rowN o1 o2 roV roN tes tnn (itL X.K.h its ++ q :: junk))) :
    p ∈ q :: coreL X.K cE cN rV rN oO dV dN mO tV tN fV fN sO (topL X rgO wdO lvV lvN rowV rowN o1 o2 roV roN tes tnn (itL X.K.h its ++ junk)) := by
  have hp' : p ∈ (coreL X.K cE cN rV rN oO dV dN mO tV tN fV fN sO (topL X rgO wdO lvV lvN rowV rowN o1 o2 roV roN tes tnn [])) ++ (itL X.K.h its ++ q :: junk) := hp
  show p ∈ q :: ((coreL X.K cE cN rV rN oO dV dN mO tV tN fV fN sO (topL X rgO wdO lvV lvN rowV rowN o1 o2 roV roN tes tnn [])) ++ (itL X.K.h its ++ junk))
  rcases List.mem_append.mp hp' with r | r
  · exact .tail _ (List.mem_append_left _ r)
  · rcases List.mem_append.mp r with r | r
    · exact .tail _ (List.mem_append_right _ (List.mem_append_left _ r))
    · rcases List.mem_cons.mp r with rfl | r
      · exact .head _
      · exact .tail _ (List.mem_append_right _ (List.mem_append_right _ r))
theorem to_junk (N : News h₀ L h (q :: coreL X.K cE cN rV rN oO dV dN mO tV tN fV fN sO (topL X rgO wdO lvV lvN rowV rowN o1 o2 roV roN tes tnn (itL X.K.h its ++ junk)))) :
    News h₀ L h (coreL X.K cE cN rV rN oO dV dN mO tV tN fV fN sO (topL X rgO wdO lvV lvN rowV rowN o1 o2 roV roN tes tnn (itL X.K.h its ++ q :: junk))) := by
  exact News.sub N fun p hp => mem_junk hp
/-- items and all else stand apart, from each other and from the fixed places -/
structure Wf (X : Fx) (its : List IR) (junk : List (Addr × Obj)) : Prop where
  W : WFL X.K its junk
  lv : ∀ i ∈ its, X.lv < i.dx
  ap : ∀ p ∈ junk, ∀ k ∈ X.keys, p.1 ≠ k
theorem Fx.Ok.le_lv (O : X.Ok) {k : Nat} (h : k ∈ X.keys) : k ≤ X.lv := by
  have g : ∀ z ∈ X.keys, z ∈ [X.c1, X.c2, X.row, X.tdx, X.tx, X.ro, X.rg, X.wd] ++ [X.lv] :=
    List.forall_mem_cons.mpr ⟨.tail _ (.tail _ (.tail _ (.tail _ (.tail _ (.tail _ (.head _)))))), List.forall_mem_cons.mpr ⟨.tail _ (.tail _ (.tail _ (.tail _ (.tail _ (.tail _ (.tail _ (.head _))))))), List.forall_mem_cons.mpr ⟨.tail _ (.tail _ (.tail _ (.tail _ (.tail _ (.tail _ (.tail _ (.tail _ (.head _)))))))), List.forall_mem_cons.mpr ⟨.tail _ (.tail _ (.head _)), List.forall_mem_cons.mpr ⟨.head _, List.forall_mem_cons.mpr ⟨.tail _ (.head _), List.forall_mem_cons.mpr ⟨.tail _ (.tail _ (.tail _ (.tail _ (.tail _ (.head _))))), List.forall_mem_cons.mpr ⟨.tail _ (.tail _ (.tail _ (.tail _ (.head _)))), List.forall_mem_cons.mpr ⟨.tail _ (.tail _ (.tail _ (.head _))), List.forall_mem_nil _⟩⟩⟩⟩⟩⟩⟩⟩⟩
  exact le_last (l := [X.c1, X.c2, X.row, X.tdx, X.tx, X.ro, X.rg, X.wd]) O.inc (g k h)
theorem top_key {p : Addr × Obj} (h : p ∈ topL X rgO wdO lvV lvN rowV rowN o1 o2 roV roN tes tnn []) : p.1 ∈ X.keys := by
  have e : (topL X rgO wdO lvV lvN rowV rowN o1 o2 roV roN tes tnn []).map (·.1) = X.keys := rfl
  exact e ▸ List.mem_map.mpr ⟨p, h, rfl⟩
theorem top_split {p : Addr × Obj} (h : p ∈ topL X rgO wdO lvV lvN rowV rowN o1 o2 roV roN tes tnn junk) : p.1 ∈ X.keys ∨ p ∈ junk := by
  rcases List.mem_append.mp (show p ∈ topL X rgO wdO lvV lvN rowV rowN o1 o2 roV roN tes tnn [] ++ junk from h) with q | q
  · exact .inl (top_key q)
  · exact .inr q
theorem Wf.apart (O : X.Ok) (w : Wf X its junk) : ∀ p ∈ itL X.K.h its ++ junk, ∀ k ∈ X.keys, p.1 ≠ k := fun p hp k hk e => by
  rcases List.mem_append.mp hp with q | q
  · obtain ⟨i, hi, e2⟩ := mem_itL q
    have h1 := w.lv i hi
    have h2 := (w.W.lo i hi).2
    have h3 := O.le_lv hk
    rcases e2 with rfl | rfl
    · have : i.x = k := e
      omega
    · have : i.dx = k := e
      omega
  · exact w.ap p q k hk e
theorem Wf.top (O : X.Ok) (w : Wf X its junk) : WFL X.K its (topL X rgO wdO lvV lvN rowV rowN o1 o2 roV roN tes tnn junk) := by
  refine ⟨w.W.lo, w.W.pw, fun p hp => ?_⟩
  rcases top_split hp with q | q
  · refine ⟨O.off _ q, fun i hi => ?_⟩
    have h1 := w.lv i hi
    have h2 := (w.W.lo i hi).2
    have h3 := O.le_lv q
    exact ⟨Nat.ne_of_lt (Nat.lt_of_le_of_lt h3 (Nat.lt_trans h1 h2)), Nat.ne_of_lt (Nat.lt_of_le_of_lt h3 h1)⟩
  · exact w.W.ex p q
theorem Wf.off (O : X.Ok) (w : Wf X its junk) : ∀ p ∈ topL X rgO wdO lvV lvN rowV rowN o1 o2 roV roN tes tnn (itL X.K.h its ++ junk), Off X.K p.1 := fun p hp => by
  rcases top_split hp with q | q
  · exact O.off _ q
  · exact w.W.off p q
theorem Wf.more (w : Wf X its junk) {D : Nat} {o : Obj} (hD : ∀ p ∈ coreL X.K cE cN rV rN oO dV dN mO tV tN fV fN sO (topL X rgO wdO lvV lvN rowV rowN o1 o2 roV roN tes tnn (itL X.K.h its ++ junk)), p.1 ≠ D) : Wf X its ((D, o) :: junk) := by
  have hk : ∀ k ∈ X.keys, D ≠ k := fun k hk e => by
    have e1 : (topL X rgO wdO lvV lvN rowV rowN o1 o2 roV roN tes tnn []).map (·.1) = X.keys := rfl
    rw [← e1] at hk
    obtain ⟨p, hp, rfl⟩ := List.mem_map.mp hk
    exact hD p (core_mem (show p ∈ topL X rgO wdO lvV lvN rowV rowN o1 o2 roV roN tes tnn [] ++ (itL X.K.h its ++ junk) from List.mem_append_left _ hp)) e.symm
  have hi : ∀ p ∈ itL X.K.h its, p.1 ≠ D := fun p hp => hD p (core_mem (show p ∈ topL X rgO wdO lvV lvN rowV rowN o1 o2 roV roN tes tnn [] ++ (itL X.K.h its ++ junk) from List.mem_append_right _ (List.mem_append_left _ hp)))
  refine ⟨⟨w.W.lo, w.W.pw, fun p hp => ?_⟩, w.lv, fun p hp => ?_⟩
  · rcases List.mem_cons.mp hp with rfl | hp
    · refine ⟨.inl fun z hz e => ?_, fun i hm => ⟨(hi _ (itL_o hm)).symm, (hi _ (itL_d hm)).symm⟩⟩
      have e1 : List.Perm ((coreL X.K cE cN rV rN oO dV dN mO tV tN fV fN sO []).map (·.1)) X.K.all := (core_perm : List.Perm [X.K.c, X.K.cd, X.K.b, X.K.bd, X.K.rw, X.K.p, X.K.pd, X.K.ow, X.K.od, X.K.sp, X.K.mp, X.K.rt, X.K.ft, X.K.sd] X.K.all)
      obtain ⟨p, hp, rfl⟩ := List.mem_map.mp (e1.mem_iff.mpr hz)
      exact hD p (core_mem0 hp) e.symm
    · exact w.W.ex p hp
  · rcases List.mem_cons.mp hp with rfl | hp
    · exact hk
    · exact w.ap p hp
end
end
end
section
open PySem PySem.W PySem.Calls PyProof.Rows
section
section
variable {prog : Program} {w : World} {A : Around} {E : Value → Shared → Prop} {s : Shared} {env : Env}
/-- one turn of a block, its own frame C with all that it needs -/
abbrev BlkC (h₀ : Heap) (L : Addr) (m : Str → Option Value) (news : List (Addr × Obj)) (C : Addr) (x : Str) (v : Value) (s₃ : Shared) : Prop :=
  (∃ m₃, Fr h₀ C s₃.heap m₃ ∧ News h₀ C s₃.heap news ∧ m₃ x = some v) ∧ Fr h₀ L s₃.heap m ∧ News h₀ L s₃.heap news
theorem blkC {h₀ h : Heap} {L C : Addr} {m m₃ : Str → Option Value} {news : List (Addr × Obj)} {x : Str} {v : Value} {s₃ : Shared} (F : Fr h₀ L h m) (N : News h₀ L h news) (hC : h.objs.size ≤ C) (hn : s₃.heap.Ns C m₃) (hm : m₃ x = some v) (k : ∀ b o, h.get? b = some o → s₃.heap.get? b = some o) : BlkC h₀ L m news C x v s₃ :=
  ⟨⟨m₃, ⟨hn, fun b o e => k b o (F.keep b o e), Nat.le_trans F.above (Nat.le_trans (Nat.le_of_lt F.ns.lt) hC)⟩, fun p hp => ⟨k _ _ (N p hp).1, fun e => absurd (Heap.lt_size (N p hp).1) (by rw [e]; exact Nat.not_lt.mpr hC), (N p hp).2.2⟩, hm⟩, F.keeps k, N.grown k⟩
def AsgGoalC (prog : Program) (w : World) (A : Around) (env : Env) (scope : Scope) (cl : List (Str × Addr)) (x : Str) (ifs : List Expr) (elt : Expr) (p : Value → Bool) (F : Value → Value → Prop) (y : Str) (Q : Flow → Shared → Prop) (n : Nat) (P : Nat → Value → Prop) (s₁ : Shared) : Prop :=
  ∃ (h₀ : Heap) (m : Str → Option Value) (news : List (Addr × Obj)), Fr h₀ env.locals s₁.heap m ∧ News h₀ env.locals s₁.heap news ∧
    (∀ C i v s₃ E', P i v → BlkC h₀ env.locals m news C x v s₃ → wpAny (model prog w) A (forIn ifs true fun c r => if r = true then do let ok ← isTrue c (compEnvC scope cl C env) (eval c (compEnvC scope cl C env)); pure (ForInStep.yield ok) else pure (ForInStep.yield r))
      (fun ok s₄ => ok = p v ∧ Keeps s₃ s₄) E' s₃) ∧
    (∀ C i v s₃ E', P i v → p v = true → BlkC h₀ env.locals m news C x v s₃ → wpAny (model prog w) A (eval elt (compEnvC scope cl C env)) (fun y s₄ => F v y ∧ Keeps s₃ s₄) E' s₃) ∧
    (∀ D h' tk ys n' (vs : List Value), vs.length = n → (∀ j v, vs[j]? = some v → P j v) → Fr h₀ env.locals h' (fun z => if z = y then some (.ref D) else m z) → News h₀ env.locals h' ((D, listOf ys.toArray n') :: news) → (∀ p ∈ news, p.1 ≠ D) → Paired F (vs.filter p) ys → Q .next { s₁ with heap := h', toks := tk })
/-- what the walked thing is: a list, or a range from 0 -/
def Src (xv : Value) (s₁ : Shared) (n : Nat) (P : Nat → Value → Prop) : Prop :=
  (∃ l vs c, xv = .ref l ∧ s₁.heap.get? l = some (listOf (List.toArray vs) c) ∧ vs.length = n ∧ ∀ i v, P i v ↔ vs[i]? = some v) ∨
  (∃ r t₀ u₀ v₀, xv = .ref r ∧ IsRange s₁.heap r 0 n 1 t₀ u₀ v₀ ∧ ∀ i v, P i v ↔ ∃ t, v = .int (i : Nat) t)
theorem lc_asgC {elt iter : Expr} {x y : Str} {px py spos : Pos} {ifs : List Expr} {scope : Scope} {cl : List (Str × Addr)} {pos : Pos} {Q : Flow → Shared → Prop} (p : Value → Bool) (F : Value → Value → Prop) (hh : A.handled = none)
    (hclos : closureFor scope env = pure cl) (hcell : ∀ y ∈ scope.names, y.2 ≠ .cell) (hkind : scope.kind = .function)
    (hnames : ∀ y ∈ scope.names, y.2 = .local → scope.names.lookup y.1 = some .local) (hx : scope.names.lookup x = some .local) (hs : ∀ x, foldedSetIterable iter env x = pure x) (hsw : swapsWith (.ListComp elt [⟨.Name x px, iter, ifs, 0⟩] scope pos) (some (.Name y py)) spos.line env = pure true) (hy : env.kindOf y = some .local) (hpk : (env.scope.kind == .class || (env.scope.kind == .module && env.locals != env.globals)) = false)
    (h : wpAny (model prog w) A (eval iter env) (fun xv s₁ => ∃ n P, n ≤ 100000 ∧ Src xv s₁ n P ∧ AsgGoalC prog w A env scope cl x ifs elt p F y Q n P s₁) E s) :
    wpAny (model prog w) A (exec (.Assign [.Name y py] (.ListComp elt [⟨.Name x px, iter, ifs, 0⟩] scope pos) spos) env) Q E s := by
  refine wpAny_Assign_ListComp_free p F hsw hclos hcell hkind hnames hx hy hpk (wpAny_mono h (fun xv s₁ g => ?_) fun _ _ e => e) hs
  obtain ⟨n, P, hz, hsrc, h₀, m, news, F₁, N₁, ht, he, hq⟩ := g
  have main : ∀ (it : Obj) (P' : Nat → Value → Prop) (St : Nat → Heap → Prop) (fp : List Addr), Walks prog w A s₁.heap.objs.size fp [s₁.heap.objs.size] n P' St → (∀ i v, P' i v → P i v) → St 0 (s₁.heap.push it) → (∀ b ∈ fp, b < (s₁.heap.push it).objs.size) →
      ∃ I fp wr n P St m, Value.ref s₁.heap.objs.size = .ref I ∧ Walks prog w A I fp wr n P St ∧ n ≤ sizeLine ∧ St 0 (s₁.heap.push it) ∧ (∀ b ∈ fp, b < (s₁.heap.push it).objs.size) ∧ env.locals ∉ wr ∧ (s₁.heap.push it).Ns env.locals m ∧ QuietOnC prog w A env scope cl x ifs elt wr P p F { s₁ with heap := s₁.heap.push it } ∧
        (∀ D h' tk ys (vs : List Value), (s₁.heap.push it).get? D = none → h'.IsList D ys → h'.PlainList D ys → vs.length = n → (∀ j v, vs[j]? = some v → P j v) → Paired F (vs.filter p) ys.toList →
          h'.Ns env.locals (fun z => if z = y then some (.ref D) else m z) → (∀ b o, b ≠ env.locals → b ∉ wr → (s₁.heap.push it).get? b = some o → h'.get? b = some o) → Q .next { s₁ with heap := h', toks := tk }) := by
    intro it P' St fp W hP0 hst hfp
    have up : ∀ h' : Heap, (∀ b o, b ∉ [s₁.heap.objs.size] → (s₁.heap.push it).get? b = some o → h'.get? b = some o) → ∀ b o, s₁.heap.get? b = some o → h'.get? b = some o := by
      intro h' hk b o e
      refine hk b o (fun hm => ?_) (Heap.get?_push_of_some _ e)
      exact absurd (Heap.lt_size e) ((List.mem_singleton.mp hm) ▸ Nat.lt_irrefl _)
    have szC : ∀ C : Nat, (s₁.heap.push it).objs.size ≤ C → s₁.heap.objs.size ≤ C := fun C h => by
      rw [Heap.size_push] at h; exact Nat.le_of_succ_le h
    refine ⟨_, _, _, _, _, _, m, rfl, W, szOk hz, hst, hfp, ?_, (F₁.push _).ns, ⟨?_, ?_⟩, ?_⟩
    · intro hm
      exact absurd F₁.ns.lt ((List.mem_singleton.mp hm) ▸ Nat.lt_irrefl _)
    · intro C i v s₃ m₃ E' hC hP hn hm hk _
      exact ht C i v s₃ E' (hP0 i v hP) (blkC F₁ N₁ (szC C hC) hn hm (up _ hk))
    · intro C i v s₃ m₃ E' hC hP hpv hn hm hk _
      exact he C i v s₃ E' (hP0 i v hP) hpv (blkC F₁ N₁ (szC C hC) hn hm (up _ hk))
    · intro D h' tk ys vs' hD hL hpl hlen hP hF hns hk
      obtain ⟨n', hDo⟩ := hpl
      have hD1 : s₁.heap.get? D = none := by
        cases e : s₁.heap.get? D with
        | none => rfl
        | some o => rw [Heap.get?_push_of_some _ e] at hD; cases hD
      have kk : ∀ b o, b ≠ env.locals → s₁.heap.get? b = some o → h'.get? b = some o := fun b o hb e =>
        hk b o hb (fun hm => absurd (Heap.lt_size e) ((List.mem_singleton.mp hm) ▸ Nat.lt_irrefl _)) (Heap.get?_push_of_some _ e)
      refine hq D h' tk ys.toList n' vs' hlen (fun j v e => hP0 j v (hP j v e)) ⟨hns, fun b o e => kk b o (fun e' => absurd (Heap.lt_size e) (by rw [e']; exact Nat.not_lt.mpr F₁.above)) (F₁.keep b o e), F₁.above⟩ (fun q hq => ?_) (fun q hq e => ?_) hF
      · rcases List.mem_cons.mp hq with rfl | hq
        · refine ⟨by simpa using hDo, ?_, ?_⟩
          · rintro rfl
            obtain ⟨o, _, _, ho, _⟩ := F₁.ns
            rw [hD1] at ho; cases ho
          · cases e : h₀.get? D with
            | none => rfl
            | some o => rw [F₁.keep D o e] at hD1; cases hD1
        · have z := N₁ q hq
          exact ⟨kk _ _ z.2.1 z.1, z.2⟩
      · have := (N₁ q hq).1
        rw [e, hD1] at this
        cases this
  rcases hsrc with ⟨l, vs, c, rfl, hgl, hlen, hP⟩ | ⟨r, t₀, u₀, v₀, rfl, hr, hP⟩
  · have hls : s₁.heap.IsList l vs.toArray := ⟨_, hgl, rfl, c, rfl⟩
    have hlt : l < s₁.heap.objs.size := Heap.lt_size hgl
    refine wpAny_pyIter_list hls ?_
    have W := Walks.list (prog := prog) (w := w) hh s₁.heap.objs.size l (Nat.ne_of_lt hlt) vs.toArray
    have en : vs.toArray.size = n := by rw [← hlen]; rfl
    rw [en] at W
    refine main _ _ _ _ W (fun i v h => (hP i v).mpr (by simpa using h)) ⟨⟨_, Heap.get?_push_size _ rfl, rfl, rfl⟩, hls.at fun o e => Heap.get?_push_of_some _ e⟩ ?_
    intro b hb
    rw [Heap.size_push]
    rcases List.mem_cons.mp hb with rfl | hb
    · exact Nat.lt_succ_self _
    · rw [List.mem_singleton.mp hb]; exact Nat.lt_succ_of_lt hlt
  · refine wpAny_pyIter_range hr (small_one (by decide) (by decide) (by omega) (by omega)) ?_
    have W := Walks.range (prog := prog) (w := w) hh s₁.heap.objs.size 0 1 n
    refine main _ _ _ _ W (fun i v h => (hP i v).mpr ?_) ?_ ?_
    · obtain ⟨t, e⟩ := h
      exact ⟨t, by rw [e]; congr 1; omega⟩
    · show IsRangeIter _ _ _ _ _
      rw [rangeSize_nat]
      simpa using Heap.get?_push_size _ rfl
    · intro b hb
      rw [List.mem_singleton.mp hb, Heap.size_push]
      exact Nat.lt_succ_self _
def CompGoalK (prog : Program) (w : World) (A : Around) (env : Env) (scope : Scope) (cl : List (Str × Addr)) (x : Str) (ifs : List Expr) (elt : Expr) (p : Value → Bool) (F : Value → Value → Prop) (Q : Value → Shared → Prop) (xv : Value) (s₁ : Shared) : Prop :=
  ∃ (l : Addr) (vs : List Value) (n : Nat) (h₀ : Heap) (m : Str → Option Value) (news : List (Addr × Obj)), xv = .ref l ∧ Fr h₀ env.locals s₁.heap m ∧ News h₀ env.locals s₁.heap news ∧ (l, listOf vs.toArray n) ∈ news ∧ vs.length ≤ 100000 ∧
    (∀ C v s₃ E', v ∈ vs → Blk h₀ env.locals m news C x v s₃ → wpAny (model prog w) A (forIn ifs true fun c r => if r = true then do let ok ← isTrue c (compEnvC scope cl C env) (eval c (compEnvC scope cl C env)); pure (ForInStep.yield ok) else pure (ForInStep.yield r))
      (fun ok s₄ => ok = p v ∧ Keeps s₃ s₄) E' s₃) ∧
    (∀ C v s₃ E', v ∈ vs → p v = true → Blk h₀ env.locals m news C x v s₃ → wpAny (model prog w) A (eval elt (compEnvC scope cl C env)) (fun y s₄ => F v y ∧ Keeps s₃ s₄) E' s₃) ∧
    (∀ D h' tk ys n', (∀ b o, s₁.heap.get? b = some o → h'.get? b = some o) → Fr h₀ env.locals h' m → News h₀ env.locals h' ((D, listOf ys.toArray n') :: news) → (∀ p ∈ news, p.1 ≠ D) → Paired F (vs.filter p) ys → Q (.ref D) { s₁ with heap := h', toks := tk })
theorem lc_evalK {elt iter : Expr} {x : Str} {px : Pos} {ifs : List Expr} {scope : Scope} {cl : List (Str × Addr)} {pos : Pos} {Q : Value → Shared → Prop} (p : Value → Bool) (F : Value → Value → Prop) (hh : A.handled = none)
    (hclos : closureFor scope env = pure cl) (hcell : ∀ y ∈ scope.names, y.2 ≠ .cell) (hkind : scope.kind = .function)
    (hnames : ∀ y ∈ scope.names, y.2 = .local → scope.names.lookup y.1 = some .local) (hx : scope.names.lookup x = some .local) (hs : ∀ x, foldedSetIterable iter env x = pure x)
    (h : wpAny (model prog w) A (eval iter env) (CompGoalK prog w A env scope cl x ifs elt p F Q) E s) :
    wpAny (model prog w) A (eval (.ListComp elt [⟨.Name x px, iter, ifs, 0⟩] scope pos) env) Q E s := by
  refine wpAny_ListComp_free p F hclos hcell hkind hnames hx (wpAny_mono h (fun xv s₁ g => ?_) fun _ _ e => e) hs
  obtain ⟨l, vs, n, h₀, m, news, rfl, F₁, N₁, hl, hz, ht, he, hq⟩ := g
  have hgl := N₁ _ hl
  have hls : s₁.heap.IsList l vs.toArray := ⟨_, hgl.1, rfl, n, rfl⟩
  have hlt : l < s₁.heap.objs.size := Heap.lt_size hgl.1
  refine wpAny_pyIter_list hls ?_
  have W := Walks.list (prog := prog) (w := w) hh s₁.heap.objs.size l (Nat.ne_of_lt hlt) vs.toArray
  have up : ∀ h' : Heap, (∀ b o, b ∉ [s₁.heap.objs.size] → (s₁.heap.push { cls := .type "list_iterator", data := .fields #[.ref l, rawInt 0] }).get? b = some o → h'.get? b = some o) → ∀ b o, s₁.heap.get? b = some o → h'.get? b = some o := by
    intro h' hk b o e
    refine hk b o (fun hm => ?_) (Heap.get?_push_of_some _ e)
    exact absurd (Heap.lt_size e) ((List.mem_singleton.mp hm) ▸ Nat.lt_irrefl _)
  have blk : ∀ C v (s₃ : Shared) m₃, s₃.heap.Ns C m₃ → m₃ x = some v → (∀ b o, s₁.heap.get? b = some o → s₃.heap.get? b = some o) → Blk h₀ env.locals m news C x v s₃ := fun C v s₃ m₃ a b k => ⟨⟨m₃, a, b⟩, F₁.keeps k, N₁.grown k⟩
  refine ⟨_, _, _, _, _, _, rfl, W, by rw [List.size_toArray]; exact szOk hz, ⟨⟨_, Heap.get?_push_size _ rfl, rfl, rfl⟩, hls.at fun o e => Heap.get?_push_of_some _ e⟩, ?_, ⟨?_, ?_⟩, ?_⟩
  · intro b hb
    rw [Heap.size_push]
    rcases List.mem_cons.mp hb with rfl | hb
    · exact Nat.lt_succ_self _
    · rw [List.mem_singleton.mp hb]; exact Nat.lt_succ_of_lt hlt
  · intro C i v s₃ m₃ E' _ hP hn hm hk _
    exact ht C v s₃ E' (by have : vs[i]? = some v := by simpa using hP
                           exact List.mem_of_getElem? this) (blk C v s₃ m₃ hn hm (up _ hk))
  · intro C i v s₃ m₃ E' _ hP hpv hn hm hk _
    exact he C v s₃ E' (by have : vs[i]? = some v := by simpa using hP
                           exact List.mem_of_getElem? this) hpv (blk C v s₃ m₃ hn hm (up _ hk))
  · intro D h' tk ys vs' hD hL hpl hlen hP hF hk
    have evs : vs' = vs := by
      refine List.ext_getElem? fun j => ?_
      by_cases hj : j < vs'.length
      · have h1 : vs'[j]? = some vs'[j] := List.getElem?_eq_getElem hj
        have h2 := hP j _ h1
        rw [h1]
        have : vs[j]? = some vs'[j] := by simpa using h2
        exact this.symm
      · rw [List.getElem?_eq_none (by omega), List.getElem?_eq_none (by rw [List.size_toArray] at hlen; omega)]
    subst evs
    obtain ⟨n', hDo⟩ := hpl
    have hD1 : s₁.heap.get? D = none := by
      cases e : s₁.heap.get? D with
      | none => rfl
      | some o => rw [Heap.get?_push_of_some _ e] at hD; cases hD
    have k1 := up _ hk
    refine hq D h' tk ys.toList n' k1 (F₁.keeps k1) ?_ (fun q hq e => ?_) hF
    · intro q hq
      rcases List.mem_cons.mp hq with rfl | hq
      · refine ⟨by simpa using hDo, ?_, ?_⟩
        · rintro rfl
          obtain ⟨o, _, _, ho, _⟩ := F₁.ns
          rw [hD1] at ho; cases ho
        · cases e : h₀.get? D with
          | none => rfl
          | some o => rw [F₁.keep D o e] at hD1; cases hD1
      · exact (N₁.grown k1) q hq
    · have := (N₁ q hq).1
      rw [e, hD1] at this
      cases this
end
end
end
open PySem PySem.W PySem.Calls PyProof.Rows
local macro_rules | `(tactic| walk_at $s:str) => `(tactic| k_extra $(Lean.Syntax.mkStrLit ("=" ++ s.getString)))
local macro_rules | `(tactic| omega) => `(tactic| k_extra "omega")
local macro_rules | `(tactic| k_mem) => `(tactic| k_extra "k_mem")
local macro_rules | `(tactic| k_enter) => `(tactic| k_extra "k_enter")
local macro_rules | `(tactic| k_room) => `(tactic| k_extra "k_room")
local macro_rules | `(tactic| k_ne) => `(tactic| k_extra "k_ne")
local macro_rules | `(tactic| k_all) => `(tactic| k_extra "k_all")
local macro_rules | `(tactic| k_put) => `(tactic| k_extra "k_put")
local macro_rules | `(tactic| k_upd) => `(tactic| k_extra "k_upd")
local macro_rules | `(tactic| k_updF) => `(tactic| k_extra "k_updF")
local macro_rules | `(tactic| k_get) => `(tactic| k_extra "k_get")
example : True := by
  k_with_none
  (k_with "omega" => first | (with_reducible assumption) | (with_reducible exact Nat.le_of_lt (by assumption)) | (with_reducible exact Nat.ne_of_lt (by assumption)) | (with_reducible exact Nat.ne_of_gt (by assumption)) | exact lt_ble (by with_reducible assumption) rfl | exact le_ble (by with_reducible assumption) rfl | exact le_ble (Nat.le_of_lt (by with_reducible assumption)) rfl | exact le_lt (by with_reducible assumption) rfl | exact lt_add 1 (by with_reducible assumption) rfl | exact Nat.le_of_ble_eq_true rfl)
  (k_with "k_mem" => first | exact List.Mem.head _ | with_reducible assumption | (refine' List.Mem.tail _ ?_; k_mem) | assumption)
  (k_with "k_enter" => first | (refine' code_def ?k1zw ?k2zw ?k3zw ?k4zw ?k5zw ?kAzw ?kFzw ?kKzw ?k6zw ?k7zw ?k8zw ?k9zw ?kBzw ?_ ?c2zw ?c3zw ?c4zw ?c5zw; (case kAzw => exact rfl); (case kFzw => first | exact rfl | assumption); (case kKzw => first | exact rfl | assumption); (case k1zw => k_asm); (case k2zw => k_asm); (case k3zw => k_asm); (case k4zw => k_asm); (case k5zw => k_asm); (case k6zw => k_is); (case k7zw => k_is); (case k8zw => k_room); (case k9zw => first | exact BindsTo.of_eq rfl | exact binds_K (by k_in) rfl (by k_is) rfl rfl rfl | fail "k_enter: no rule for these arguments"); (case c5zw => decide); (case kBzw => exact locs rfl); (case c2zw => exact rfl); (case c3zw => exact rfl); (case c4zw => exact rfl); k_whole; intro g'zw' L'zw' h'zw' FG'zw' F'zw' N'zw' B'zw' X'zw' T'zw'; (try dsimp only); (try k_lift B'zw'); (try k_fold)) | (refine' code_defC ?k1zw ?k2zw ?k3zw ?k4zw ?k5zw ?kAzw ?kFzw ?kKzw ?k6zw ?k7zw ?k8zw ?k9zw ?kBzw ?kDzw ?_ ?c2zw ?c3zw ?c4zw; (case kAzw => exact rfl); (case kFzw => first | exact rfl | assumption); (case kKzw => first | exact rfl | assumption); (case k1zw => k_asm); (case k2zw => k_asm); (case k3zw => k_asm); (case k4zw => k_asm); (case k5zw => k_asm); (case k6zw => k_is); (case k7zw => k_is); (case k8zw => k_room); (case k9zw => first | exact BindsTo.of_eq rfl | exact binds_K (by k_in) rfl (by k_is) rfl rfl rfl | fail "k_enter: no rule for these arguments"); (case kBzw => exact rfl); (case kDzw => decide +kernel); (case c2zw => exact rfl); (case c3zw => exact rfl); (case c4zw => exact rfl); k_whole; intro g'zw' L'zw' h'zw' tk'zw' cells'zw' FG'zw' F'zw' N'zw' Y'zw' B'zw' X'zw' T'zw' l1zw'; (try k_lt l1zw'); k_cells Y'zw'; (try simp only [List.cons_append, List.nil_append] at N'zw'); (try dsimp only); (try k_lift B'zw'); (try k_fold)))
  (k_with "k_room" => ((try simp only [depth_under_make, depth_under_kw, depth_in1, depth_deeper, depth_caller]); (have hrl : recursionLimit = 1000 := rfl); omega))
  (k_with "k_ne" => first | with_reducible assumption | (with_reducible exact Ne.symm (by assumption)) | (refine neN ?_; (try dsimp only); omega))
  (k_with "k_all" => first | with_reducible assumption | exact offAll (by assumption) (by simp [Kst.all]) (by (try dsimp only); omega))
  (k_with "k_put" => (refine' PutR.eq ?zzzw; (case zzzw => repeat (first | exact PutR.head (by rfl) | apply PutR.tail (by rfl)))))
  (k_with "=setAttr ref" => (k_here; k_dflt (refine' set_dict ?k1zw ?k2zw ?k3zw ?k4zw ?k5zw ?k6zw ?k7zw ?k8zw ?k9zw ?k10zw ?k11zw ?k12zw ?k13zw ?_; (case k1zw => k_asm); (case k2zw => k_asm); (case k3zw => k_asm); (case k4zw => k_inst); (case k5zw => exact rfl); (case k6zw => k_is); (case k7zw => k_is); (case k8zw => k_is); (case k9zw => k_is); (case k10zw => k_get); (case k11zw => k_put); (case k12zw => k_upd); (case k13zw => first | exact Nat.le_of_ble_eq_true rfl | ((try simp only [List.length_cons]); omega)); k_whole); intro h'zw' F'zw' N'zw'; (try dsimp only at N'zw'); (try k_sweep)))
  (k_with "=call builtin:len" => (k_here; (with_reducible show wpAny _ _ (call (Value.builtin "len") [Value.ref _]) _ _ _); k_dflt (refine len_L (by k_asm) (by k_mem) (by (try simp only [List.length_append, List.length_cons, List.length_nil]); rfl) (by omega) ?_)))
  (k_with "=call builtin:list.append" => (k_here; (with_reducible show wpAny _ _ (call (Value.builtin _) [Value.ref _, _]) _ _ _); k_dflt (refine' append_L ?k1zw ?k2zw ?k3zw ?zzw ?_; (case k1zw => k_asm); (case k2zw => k_asm); (case k3zw => k_upd); (case zzw => ((try simp only [List.length_append, List.length_cons, List.length_nil]); omega)); k_whole); intro h'zw' F'zw' N'zw'; (try dsimp only at N'zw'); (try k_sweep)))
  (k_with "=call builtin:list.pop" => (k_here; (with_reducible show wpAny _ _ (call (Value.builtin _) [Value.ref _]) _ _ _); k_dflt (refine' pop_last ?k1zw ?k2zw ?k3zw ?zzw ?_; (case k1zw => k_asm); (case k2zw => k_asm); (case k3zw => k_upd); (case zzw => ((try simp only [List.length_append, List.length_cons, List.length_nil]); omega)); k_whole); intro h'zw' F'zw' N'zw'; (try dsimp only at N'zw'); (try k_sweep)))
  (k_with "=call builtin:list.remove" => (k_here; (with_reducible show wpAny _ _ (call (Value.builtin _) [Value.ref _, Value.int _ _]) _ _ _); k_dflt (refine' remove_L ?k1zw ?k2zw ?hazw ?hbzw ?hkzw ?k3zw ?zzw ?_; (case k1zw => k_asm); (case k2zw => k_asm); (case k3zw => k_upd); (case hazw => k_asm); (case hbzw => k_asm); (case hkzw => k_asm); (case zzw => omega); k_whole); intro h'zw' F'zw' N'zw'; (try dsimp only at N'zw'); (try k_sweep)))
  (k_with "=getMethod ref" => (k_here; (with_reducible show wpAny _ _ (getMethod (Value.ref _) (PySem.Str.ofString "remove") _) _ _ _); k_dflt (refine' kl_method ?Nzw ?mzw PySem.F.slot_list_remove PySem.F.type_list_remove ?_; (case Nzw => k_asm); (case mzw => k_mem))))
  (k_with "=compareOp NotIn int ref" => (k_here; k_dflt (refine kdg_notin (knd := intKind _ _) (by k_asm) (by k_mem) (by k_asm) (by first | exact nm_ow (by assumption) | exact nm_sd (by assumption) | exact nm_mp (by assumption) | exact notmod (by omega)) (intKind_is _ _ _ _) _ (by first | assumption | rfl) ?_); (try dsimp only [Bool.not_true, Bool.not_false])))
  (k_with "=compareOp In int ref" => (k_here; k_dflt (refine kda_in (knd := intKind _ _) (by k_asm) (by k_mem) (by k_asm) (by first | exact nm_ow (by assumption) | exact nm_sd (by assumption) | exact nm_mp (by assumption) | exact notmod (by omega)) (intKind_is _ _ _ _) _ (by first | assumption | rfl) ?_)))
  (k_with "=subscriptTail" => (k_here; (with_reducible show wpAny _ _ (subscriptTail _ _ (Value.ref _) (Value.int _ _)) _ _ _); k_dflt (refine kdt_tail (knd := intKind _ _) (by k_asm) (by k_mem) (by k_asm) (kdt_getItem (knd := intKind _ _) (by k_asm) (by k_mem) (by k_asm) (intKind_is _ _ _ _) (by assumption) ?_))))
  (k_with "=subscriptTail Attribute Name Name ref int" => (k_here; k_dflt (refine kdt_tail (knd := intKind _ _) (by k_asm) (by k_mem) (by k_asm) (kdt_getItem (knd := intKind _ _) (by k_asm) (by k_mem) (by k_asm) (intKind_is _ _ _ _) (by assumption) ?_))))
  (k_with "=setItem ref int" => (k_here; k_dflt (refine' kda_set (knd := intKind _ _) ?Fzw ?Nzw ?Uzw ?dzw (intKind_is _ _ _ _) ?zzw ?_; (case Fzw => k_asm); (case Nzw => k_asm); (case Uzw => k_updF); (case dzw => k_asm); (case zzw => exact szOk (by omega))); intro h'zw' o'zw' F'zw' N'zw' hd'zw'; (try dsimp only at N'zw'); (try k_sweep)))
  (k_with "=delItem ref int" => (k_here; k_dflt (refine' kob_del (knd := intKind _ _) ?Fzw ?Nzw ?Uzw ?dzw (intKind_is _ _ _ _) ?lzw ?zzw ?_; (case Fzw => k_asm); (case Nzw => k_asm); (case Uzw => k_updF); (case dzw => k_asm); (case lzw => first | assumption | (simp only [*]; done)); (case zzw => exact szOk (by omega))); intro h'zw' o'zw' F'zw' N'zw' hd'zw'; (try dsimp only at N'zw'); (try k_sweep)))
  (k_with "=getMethod ref" => (k_here; (with_reducible show wpAny _ _ (getMethod (Value.ref _) (PySem.Str.ofString "append") _) _ _ _); k_dflt (refine' kl_method ?Nzw ?mzw PySem.F.slot_list_append PySem.F.type_list_append ?_; (case Nzw => k_asm); (case mzw => k_mem))))
  (k_with "=call ref" => (k_here; k_dflt (refine' call_cls ?k1zw ?k2zw ?k3zw ?k4zw ?k5zw ?k6zw ?_; (case k1zw => k_asm); (case k2zw => k_asm); (case k3zw => k_asm); (case k4zw => k_is); (case k5zw => k_is); (case k6zw => k_is); k_whole; intro x'zw' d'zw' h'zw' F'zw' N'zw' l1zw' l2zw'; (try k_lt l1zw'); (try k_lt2 l2zw'); (try k_sweep); k_enter)))
  (k_with "=call ref" => (k_here; k_dflt (refine wpAny_call ?_; k_enter)))
  (k_with "=getMethod ref" => (k_here; (with_reducible show wpAny _ _ (getMethod (Value.ref _) (Str.ofString "get") _) _ _ _); k_dflt (refine kdg_method (knd := PySem.intKind _ _) (by k_asm) (by k_mem) (by k_asm) ?_)))
  (k_with "=call builtin:dict.get" => (k_here; (with_reducible show wpAny _ _ (call (Value.builtin "dict.get") [Value.ref _, Value.int _ _, _]) _ _ _); k_dflt (refine kdg_get2 (knd := PySem.intKind _ _) (by k_asm) (by k_mem) (by k_asm) (by first | exact nm_ow (by assumption) | exact nm_sd (by assumption) | exact nm_mp (by assumption) | exact notmod (by omega)) (intKind_is _ _ _ _) _ rfl ?_)))
  (k_with "tb_rel" => exact ⟨by assumption, by assumption, by assumption, by first | exact rfl | assumption, by first | exact rfl | assumption, by first | exact lt_add 1 hd9 rfl | exact lt_add 2 hd9 rfl | exact lt_add 3 hd9 rfl | exact lt_add 4 hd9 rfl | exact lt_add 1 hd8 rfl | exact lt_add 2 hd8 rfl | exact lt_add 3 hd8 rfl | exact lt_add 4 hd8 rfl | ((try simp only [depth_under_make, depth_under_kw, depth_in1, depth_deeper, depth_caller]); omega) | decide, by first | exact lt_add 1 hu9 rfl | exact lt_add 2 hu9 rfl | exact lt_add 3 hu9 rfl | exact lt_add 4 hu9 rfl | exact lt_add 5 hu9 rfl | exact lt_add 6 hu9 rfl | exact lt_add 1 hu8 rfl | exact lt_add 2 hu8 rfl | exact lt_add 3 hu8 rfl | exact lt_add 4 hu8 rfl | exact lt_add 5 hu8 rfl | exact lt_add 6 hu8 rfl | ((try simp only [units_in1, units_deeper, units_under_make, units_caller, Around.deeper_units]); omega) | decide⟩)
  (k_with "k_upd" => first | exact upd_cd (by assumption) (by k_all) | exact upd_rw (by assumption) (by k_all) | exact upd_od (by assumption) (by k_all) | exact upd_ft (by assumption) (by k_all) | (refine' upd_core ?azw ?bzw; (case azw => exact off_all (by assumption) (Or.inr (by with_reducible assumption))); (case bzw => k_upd)))
  (k_with "k_updF" => first | exact upd_ow (by assumption) (by k_all) | exact upd_mp (by assumption) (by k_all) | exact upd_sd (by assumption) (by k_all))
  (k_with "k_room" => first | exact room 0 (a := 900) (by with_reducible assumption) rfl | exact room 1 (a := 900) (by with_reducible assumption) rfl | exact room 2 (a := 900) (by with_reducible assumption) rfl | exact room 3 (a := 900) (by with_reducible assumption) rfl | exact room 4 (a := 900) (by with_reducible assumption) rfl | exact room 5 (a := 900) (by with_reducible assumption) rfl | exact room 6 (a := 900) (by with_reducible assumption) rfl)
  (k_with "k_all" => (with_reducible refine List.forall_mem_cons.mpr ⟨Or.inr (by with_reducible assumption), ?_⟩; k_all))
  (k_with "kst" => first | (k_unfold; (try dsimp only)) | (k_end; wrow_close) | walk1 | (dsimp only; walk1) | (leave1; walk_say "STEP leave1"; try dsimp only) | fail "no step")
  trivial
example : True := by first | (w_top off; (fail_if_success walk1); trivial) | trivial
section
open PySem PySem.W PySem.Calls PyProof.Rows
section
section
variable {w : World} {A₀ : Around} {E : Value → Shared → Prop} {s : Shared} {base h₀ : Heap} {env : Env} {outer : List Env} {L d u : Nat} {m mg mb : Str → Option Value} {loose : List Str} {mean : ExcName → Option Value}
  {K : Kst} {low lowest out : Int} {tl tw tu : Tok} {cN : Nat} {rV : List Value} {rN : Nat} {oO : Obj} {dV : List Value} {dN : Nat} {mO : Obj} {tV : List Value} {tN : Nat} {fV : List Value} {fN : Nat} {sO : Obj} {rest : List (Addr × Obj)}
set_option maxRecDepth 100000 in
set_option maxHeartbeats 1000000 in
theorem temp_new {Q : Value → Shared → Prop} (C : CT w A₀ base h₀ env outer L d u mg mb loose mean) (O : K.Ok) (F : Fr h₀ L s.heap m)
    (N : News h₀ L s.heap (coreL K (cdE K low tl lowest tw out tu) cN rV rN oO dV dN mO tV tN [] fN sO rest))
    (hR : ∀ p ∈ rest, Off K p.1)
    (h : ∀ h' t1 t2 tk, Fr h₀ L h' m → News h₀ L h' (coreL K (cdE K (low - 4) t1 (if low - 4 < lowest then low - 4 else lowest) t2 out tu) cN rV rN oO dV dN mO tV tN [] fN sO rest) →
      ∀ t3, Q (.int (low - 4) t3) { s with heap := h', toks := tk }) :
    wpAny (model pg w) (AA d u (env :: outer)) (call (.ref 255) [.ref K.c] []) Q E s := by
  have fill : PySem.Challenge.rw_pb0351_01 = PySem.Challenge.rw_pb0351_01 ∧ Mine.hd.heap_1 = Mine.hd.heap_1 := by
    k_fill
    exact ⟨rfl, rfl⟩
  clear fill
  obtain ⟨B, X, T, hf, hk, hd, hu⟩ := C
  have hO := kOk_facts O
  (repeat' (k_extra "kst"))
  exact h _ _ _ _ (by assumption) (by assumption) _
set_option maxRecDepth 100000 in
set_option maxHeartbeats 1000000 in
theorem temp_old {Q : Value → Shared → Prop} {y : Int} {ty : Tok} (C : CT w A₀ base h₀ env outer L d u mg mb loose mean) (O : K.Ok) (F : Fr h₀ L s.heap m)
    (N : News h₀ L s.heap (coreL K (cdE K low tl lowest tw out tu) cN rV rN oO dV dN mO tV tN (fV ++ [.int y ty]) fN sO rest))
    (hR : ∀ p ∈ rest, Off K p.1) (hz : fV.length < 1000)
    (h : ∀ h' tk, Fr h₀ L h' m → News h₀ L h' (coreL K (cdE K low tl lowest tw out tu) cN rV rN oO dV dN mO tV tN fV (fN + 1) sO rest) →
      Q (.int y ty) { s with heap := h', toks := tk }) :
    wpAny (model pg w) (AA d u (env :: outer)) (call (.ref 255) [.ref K.c] []) Q E s := by
  obtain ⟨B, X, T, hf, hk, hd, hu⟩ := C
  have hO := kOk_facts O
  (repeat' (k_extra "kst"))
  exact h _ _ (by assumption) (by assumption)
set_option maxRecDepth 100000 in
set_option maxHeartbeats 1000000 in
theorem put_spec {Q : Value → Shared → Prop} {nm a b c : Value} (C : CT w A₀ base h₀ env outer L d u mg mb loose mean) (O : K.Ok) (F : Fr h₀ L s.heap m)
    (N : News h₀ L s.heap (coreL K (cdE K low tl lowest tw out tu) cN rV rN oO dV dN mO tV tN fV fN sO rest))
    (hR : ∀ p ∈ rest, Off K p.1) (hz : rV.length < 10000)
    (h : ∀ h' tk tp, Fr h₀ L h' m → News h₀ L h' (coreL K (cdE K low tl lowest tw out tu) cN (rV ++ [.ref tp]) (rN + 1) oO dV dN mO tV tN fV fN sO ((tp, tupO [nm, a, b, c]) :: rest)) → K.sd < tp → (∀ p ∈ rest, p.1 < tp) →
      ∀ v, Q v { s with heap := h', toks := tk }) :
    wpAny (model pg w) (AA d u (env :: outer)) (call (.ref 42) [.ref K.b, nm, a, b, c] []) Q E s := by
  obtain ⟨B, X, T, hf, hk, hd, hu⟩ := C
  have hO := kOk_facts O
  (repeat' (k_extra "kst"))
  rename (@LT.lt Nat _ K.c _ ∧ _) => l1
  refine h _ _ _ (by assumption) (core_rot (by assumption)) (by omega) (of_allLt ?_) _
  iterate 14 (replace l1 := l1.2)
  exact l1
set_option maxRecDepth 100000 in
set_option maxHeartbeats 1000000 in
theorem give_spec {Q : Value → Shared → Prop} {reg : Int} {tr : Tok} {kvs : List (Int × Value)} {va vb : List Value} {a b : List Int} {t' : Tok} (C : CT w A₀ base h₀ env outer L d u mg mb loose mean) (O : K.Ok) (F : Fr h₀ L s.heap m)
    (N : News h₀ L s.heap (coreL K (cdE K low tl lowest tw out tu) cN rV rN oO (va ++ .int reg t' :: vb) dN mO tV tN fV fN sO rest))
    (hR : ∀ p ∈ rest, Off K p.1) (hd : oO.IsDictOf (intK w) kvs) (hz : kvs.length ≤ 100) (hin : (valueAt kvs reg).isSome = true) (ha : IntsAre va a) (hb : IntsAre vb b) (hk : reg ∉ a) (hl : va.length + vb.length ≤ 100)
    (h : ∀ h' tk oO', Fr h₀ L h' m → oO'.IsDictOf (intK w) (without kvs reg) → News h₀ L h' (coreL K (cdE K low tl lowest tw out tu) cN rV rN oO' (va ++ vb) (dN + 1) mO tV tN fV fN sO rest) →
      Q .none { s with heap := h', toks := tk }) :
    wpAny (model pg w) (AA d u (env :: outer)) (call (.ref 201) [.ref K.p, .int reg tr] []) Q E s := by
  obtain ⟨B, X, T, hf, hke, hdp, hu⟩ := C
  have hO := kOk_facts O
  (repeat' (k_extra "kst"))
  exact h _ _ _ (by assumption) (by assumption) (by assumption)
set_option maxRecDepth 100000 in
set_option maxHeartbeats 1000000 in
theorem free_temp_spec {Q : Value → Shared → Prop} {x : Value} (C : CT w A₀ base h₀ env outer L d u mg mb loose mean) (O : K.Ok) (F : Fr h₀ L s.heap m)
    (N : News h₀ L s.heap (coreL K (cdE K low tl lowest tw out tu) cN rV rN oO dV dN mO tV tN fV fN sO rest))
    (hR : ∀ p ∈ rest, Off K p.1) (hz : fV.length < 10000)
    (h : ∀ h' tk, Fr h₀ L h' m → News h₀ L h' (coreL K (cdE K low tl lowest tw out tu) cN rV rN oO dV dN mO tV tN (fV ++ [x]) (fN + 1) sO rest) → Q .none { s with heap := h', toks := tk }) :
    wpAny (model pg w) (AA d u (env :: outer)) (call (.ref 262) [.ref K.c, x] []) Q E s := by
  obtain ⟨B, X, T, hf, hk, hd, hu⟩ := C
  have hO := kOk_facts O
  (repeat' (k_extra "kst"))
  exact h _ _ (by assumption) (by assumption)
set_option maxRecDepth 100000 in
set_option maxHeartbeats 1000000 in
theorem temp_spec {Q : Value → Shared → Prop} {fs : List Int} (C : CT w A₀ base h₀ env outer L d u mg mb loose mean) (O : K.Ok) (F : Fr h₀ L s.heap m)
    (N : News h₀ L s.heap (coreL K (cdE K low tl lowest tw out tu) cN rV rN oO dV dN mO tV tN fV fN sO rest))
    (hR : ∀ p ∈ rest, Off K p.1) (hI : IntsAre fV fs) (hz : fs.length < 1000)
    (h : ∀ h' tk t1 t2 t3 fV' fN', IntsAre fV' (tempF low lowest fs).2.2.2 → Fr h₀ L h' m → News h₀ L h' (coreL K (cdE K (tempF low lowest fs).2.1 t1 (tempF low lowest fs).2.2.1 t2 out tu) cN rV rN oO dV dN mO tV tN fV' fN' sO rest) →
      Q (.int (tempF low lowest fs).1 t3) { s with heap := h', toks := tk }) :
    wpAny (model pg w) (AA d u (env :: outer)) (call (.ref 255) [.ref K.c] []) Q E s := by
  by_cases hn : fs = []
  · subst hn
    cases hI
    exact temp_new C O F N hR fun h' t1 t2 tk F' N' t3 => h h' tk t1 t2 t3 [] _ .nil F' N'
  · refine hide fun Pz kPz => ?_
    obtain ⟨vs', y, t, rfl, hI', hl⟩ := ints_last hI hn
    refine kPz ?_
    clear kPz
    have hlen : vs'.length < 1000 := by
      have e1 := hI.length
      simp only [List.length_append, List.length_cons, List.length_nil] at e1
      omega
    have e : tempF low lowest fs = (y, low, lowest, fs.dropLast) := by unfold tempF; rw [hl]
    rw [e] at h
    exact temp_old C O F N hR hlen fun h' tk F' N' => h h' tk _ _ _ vs' _ hI' F' N'
end
end
end
example : True := by first | (w_top off; (fail_if_success walk1); trivial) | trivial
section
open PySem PySem.W PySem.Calls PyProof.Rows
section
section
variable {w : World} {A₀ : Around} {E : Value → Shared → Prop} {s : Shared} {base h₀ : Heap} {env : Env} {outer : List Env} {L d u : Nat} {m mg mb : Str → Option Value} {loose : List Str} {mean : ExcName → Option Value}
  {K : Kst} {low lowest out : Int} {tl tw tu : Tok} {cN : Nat} {rV : List Value} {rN : Nat} {oO : Obj} {dV : List Value} {dN : Nat} {mO : Obj} {tV : List Value} {tN : Nat} {fV : List Value} {fN : Nat} {sO : Obj} {rest : List (Addr × Obj)}
  {x dx iN : Nat} {H : Nat → Int} {it : Nat → Tok} {iv : Nat → Value} {mode : Str} {tm : Tok} {value : Int} {tv : Tok} {reg : Int} {tr : Tok} {root : Bool} {slot : Int} {ts : Tok} {was : Str} {ta : Tok}
set_option maxRecDepth 100000 in
set_option maxHeartbeats 1000000 in
theorem claim_spec {Q : Value → Shared → Prop} {r : Int} {t' : Tok} {kvs : List (Int × Value)} (C : CT w A₀ base h₀ env outer L d u mg mb loose mean) (O : K.Ok) (F : Fr h₀ L s.heap m)
    (N : News h₀ L s.heap (coreL K (cdE K low tl lowest tw out tu) cN rV rN oO dV dN mO tV tN fV fN sO ((x, instObj 108 dx) :: (dx, dictOf (itE H it iv mode tm value tv reg tr root slot ts was ta) iN) :: rest)))
    (hR : ∀ p ∈ rest, Off K p.1) (hx : K.sd < dx ∧ dx < x) (hX : ∀ p ∈ rest, p.1 ≠ x) (hD : ∀ p ∈ rest, p.1 ≠ dx) (hd : oO.IsDictOf (intK w) kvs) (hz : kvs.length ≤ 100) (hin : (valueAt kvs r).isSome = false) (hl : dV.length ≤ 100)
    (h : ∀ h' tk oO', Fr h₀ L h' m → oO'.IsDictOf (intK w) (stored kvs r (.ref x)) → News h₀ L h' (coreL K (cdE K low tl lowest tw out tu) cN rV rN oO' (dV ++ [.int r t']) (dN + 1) mO tV tN fV fN sO ((x, instObj 108 dx) :: (dx, dictOf (itE H it iv mode tm value tv r t' root slot ts was ta) iN) :: rest)) →
      Q (.int r t') { s with heap := h', toks := tk }) :
    wpAny (model pg w) (AA d u (env :: outer)) (call (.ref 179) [.ref K.p, .ref x, .int r t'] []) Q E s := by
  have fill : PySem.Challenge.rw_pb0351_01 = PySem.Challenge.rw_pb0351_01 ∧ Mine.hd.heap_1 = Mine.hd.heap_1 := by
    k_fill
    exact ⟨rfl, rfl⟩
  clear fill
  obtain ⟨B, X, T, hf, hke, hdp, hu⟩ := C
  have hO := kOk_facts O
  have hx1 := hx.1
  have hx2 := hx.2
  have hx3 := Nat.lt_trans hx.1 hx.2
  (repeat' (k_extra "kst"))
  exact h _ _ _ (by assumption) (by assumption) (by assumption)
example : True := by
  (k_with "stopM21" => first | (with_reducible show wpAny _ _ (call (Value.ref 255) _ _) _ _ _) | (with_reducible show wpAny _ _ (call (Value.ref 42) _ _) _ _ _) | (with_reducible show wpAny _ _ (call (Value.ref 201) _ _) _ _ _))
  trivial
set_option maxRecDepth 100000 in
set_option maxHeartbeats 1000000 in
theorem spill_code {R : Result → Shared → Prop} {fs : List Int} {kvs svs : List (Int × Value)} {va vb : List Value} {a b : List Int} {t' : Tok} (C : CT w A₀ base h₀ env outer L d u mg mb loose mean) (hd9 : d < 890) (hu9 : u < 8900) (O : K.Ok) (F : Fr h₀ L s.heap m)
    (N : News h₀ L s.heap (coreL K (cdE K low tl lowest tw out tu) cN rV rN oO (va ++ .int reg t' :: vb) dN mO tV tN fV fN sO ((x, instObj 108 dx) :: (dx, dictOf (itE H it iv mode tm value tv reg tr root slot ts was ta) iN) :: rest)))
    (hR : ∀ p ∈ rest, Off K p.1) (hx : K.sd < dx ∧ dx < x) (hX : ∀ p ∈ rest, p.1 ≠ x) (hD : ∀ p ∈ rest, p.1 ≠ dx)
    (hI : IntsAre fV fs) (hfs : fs.length < 1000) (hrz : rV.length < 10000)
    (hd : oO.IsDictOf (intK w) kvs) (hz : kvs.length ≤ 100) (hin : (valueAt kvs reg).isSome = true) (ha : IntsAre va a) (hb : IntsAre vb b) (hk : reg ∉ a) (hl : va.length + vb.length ≤ 100)
    (hs : sO.IsDictOf (intK w) svs) (hsz : svs.length ≤ 100)
    (h : ∀ h' tk tp oO' sO' t1 t2 tm' tr' ts' ta' t3 t4 t5 fV' fN', IntsAre fV' (tempF low lowest fs).2.2.2 → Fr h₀ L h' m → oO'.IsDictOf (intK w) (without kvs reg) → sO'.IsDictOf (intK w) (stored svs (tempF low lowest fs).1 (.ref x)) →
      News h₀ L h' (coreL K (cdE K (tempF low lowest fs).2.1 t1 (tempF low lowest fs).2.2.1 t2 out tu) cN (rV ++ [.ref tp]) (rN + 1) oO' (va ++ vb) (dN + 1) mO tV tN fV' fN' sO'
        ((x, instObj 108 dx) :: (dx, dictOf (itE H it iv "spill" tm' value tv (-1) tr' root (tempF low lowest fs).1 ts' mode ta') iN) :: (tp, tupO [.str "STR" t3, .int reg t4, .int 11 t5, .int (tempF low lowest fs).1 ts']) :: rest)) →
      K.sd < tp → x < tp → (∀ p ∈ rest, p.1 < tp) →
      R (.ok (.ret .none)) { s with heap := h', toks := tk }) :
    codeAny (model pg w) (AA d u (env :: outer)) (.call (.ref 277) ⟨[.ref K.c, .ref x], []⟩) R s := by
  obtain ⟨B, X, T, hf, hke, hdp, hu⟩ := C
  have hO := kOk_facts O
  have hx1 := hx.1
  have hx2 := hx.2
  have hx3 := Nat.lt_trans hx.1 hx.2
  k_dflt k_enter
  (repeat' ((fail_if_success k_extra "stopM21"); k_extra "kst"))
  (try dsimp only [List.cons_append, List.nil_append])
  refine temp_spec (fs := fs) (by k_extra "tb_rel") O (by assumption) (by assumption) ?_ (by assumption) (by assumption) ?_
  · intro p hp
    rcases List.mem_cons.mp hp with rfl | hp
    · exact .inr (by omega)
    · rcases List.mem_cons.mp hp with rfl | hp
      · exact .inr (by omega)
      · exact hR p hp
  rename Fr _ _ _ _ => FX
  rename News _ _ _ _ => NX
  intro h' tk t1 t2 t3 fV' fN' hI' F' N'
  clear NX
  (repeat' ((fail_if_success k_extra "stopM21"); k_extra "kst"))
  (try dsimp only [List.cons_append, List.nil_append])
  refine put_spec (by k_extra "tb_rel") O (by assumption) (by assumption) ?_ (by assumption) ?_
  · intro p hp
    rcases List.mem_cons.mp hp with rfl | hp
    · exact .inr (by omega)
    · rcases List.mem_cons.mp hp with rfl | hp
      · exact .inr (by omega)
      · exact hR p hp
  rename News _ _ _ _ => NX
  intro h' tk tp F' N' htp htr vv
  clear NX
  have hxt : x < tp := htr _ (.head _)
  have hdt : dx < tp := htr _ (.tail _ (.head _))
  have hrt : ∀ p ∈ rest, p.1 < tp := fun p hp => htr p (.tail _ (.tail _ hp))
  (repeat' ((fail_if_success k_extra "stopM21"); k_extra "kst"))
  (try dsimp only [List.cons_append, List.nil_append])
  refine give_spec (kvs := kvs) (by k_extra "tb_rel") O (by assumption) (by assumption) ?_ hd hz hin ha hb hk hl ?_
  · intro p hp
    rcases List.mem_cons.mp hp with rfl | hp
    · exact .inr htp
    · rcases List.mem_cons.mp hp with rfl | hp
      · exact .inr (by omega)
      · rcases List.mem_cons.mp hp with rfl | hp
        · exact .inr (by omega)
        · exact hR p hp
  rename News _ _ _ _ => NX
  intro h' tk oO' F' hd' N'
  clear NX
  have hX' : ∀ p ∈ (tp, tupO [Value.str "STR" 0, Value.int 0 0]) :: rest, p.1 ≠ x := fun p hp => by
    rcases List.mem_cons.mp hp with rfl | hp
    · exact neN (by dsimp only; omega)
    · exact hX p hp
  (repeat' ((fail_if_success k_extra "stopM21"); k_extra "kst"))
  exact h _ _ _ _ _ _ _ _ _ _ _ _ _ _ _ _ hI' (by assumption) hd' (by assumption) (core_swap3 (by assumption)) htp hxt hrt
end
end
end
example : True := by first | (w_top off; (fail_if_success walk1); trivial) | trivial
section
open PySem PySem.W PySem.Calls PyProof.Rows
section
def FreeIs (cnt : Int) (kvs : List (Int × Value)) (r : Int) : Prop :=
  (r = -1 ∧ ∀ j, 0 ≤ j → j < cnt → (valueAt kvs j).isSome = true) ∨ (0 ≤ r ∧ r < cnt ∧ (valueAt kvs r).isSome = false ∧ ∀ j, 0 ≤ j → j < r → (valueAt kvs j).isSome = true)
section
variable {w : World} {A₀ : Around} {E : Value → Shared → Prop} {s : Shared} {base h₀ : Heap} {env : Env} {outer : List Env} {L d u : Nat} {m mg mb : Str → Option Value} {loose : List Str} {mean : ExcName → Option Value}
  {K : Kst} {low lowest out : Int} {tl tw tu : Tok} {cN : Nat} {rV : List Value} {rN : Nat} {oO : Obj} {dV : List Value} {dN : Nat} {mO : Obj} {tV : List Value} {tN : Nat} {fV : List Value} {fN : Nat} {sO : Obj} {rest : List (Addr × Obj)}
example : True := by
  (k_with "stopM31" => first | (with_reducible show wpAny _ _ (exec (Stmt.For _ _ _ _ _) _) _ _ _) | (with_reducible show wpAny _ _ (call (Value.type "range") _ _) _ _ _) | (with_reducible show wpAny _ _ (pyIter (Value.ref _)) _ _ _))
  trivial
set_option maxRecDepth 100000 in
set_option maxHeartbeats 1000000 in
theorem free_spec {Q : Value → Shared → Prop} {kvs : List (Int × Value)} (C : CT w A₀ base h₀ env outer L d u mg mb loose mean) (O : K.Ok) (F : Fr h₀ L s.heap m)
    (N : News h₀ L s.heap (coreL K (cdE K low tl lowest tw out tu) cN rV rN oO dV dN mO tV tN fV fN sO rest))
    (hR : ∀ p ∈ rest, Off K p.1) (ho : oO.IsDictOf (intK w) kvs)
    (h : ∀ h' tk t r, Fr h₀ L h' m → News h₀ L h' (coreL K (cdE K low tl lowest tw out tu) cN rV rN oO dV dN mO tV tN fV fN sO rest) → FreeIs K.cnt kvs r →
      Q (.int r t) { s with heap := h', toks := tk }) :
    wpAny (model pg w) (AA d u (env :: outer)) (call (.ref 172) [.ref K.p] []) Q E s := by
  have fill : PySem.Challenge.rw_pb0351_01 = PySem.Challenge.rw_pb0351_01 ∧ Mine.hd.heap_1 = Mine.hd.heap_1 := by
    k_fill
    exact ⟨rfl, rfl⟩
  clear fill
  obtain ⟨B, X, T, hf, hke, hd, hu⟩ := C
  have hO := kOk_facts O
  (repeat' ((fail_if_success k_extra "stopM31"); k_extra "kst"))
  rename Fr _ _ _ _ => FX
  refine For_invVF FX rfl rfl ?_
  (repeat' ((fail_if_success k_extra "stopM31"); k_extra "kst"))
  rename Fr _ _ _ _ => F1
  rename News _ _ _ _ => N1
  refine range1_rows F1 N1 ?_
  intro h2 tk2 t1 u1 v1 hr F2 N2 _
  clear F1 N1
  (repeat' ((fail_if_success k_extra "stopM31"); k_extra "kst"))
  refine iter_range0 (n := (K.cnt - 0).toNat) (fun i nw => nw = coreL K (cdE K low tl lowest tw out tu) cN rV rN oO dV dN mO tV tN fV fN sO rest ∧ (∀ j : Int, 0 ≤ j → j < i → (valueAt kvs j).isSome = true)) rfl hr ?_ ?_ F2 N2 ⟨rfl, fun j h1 h2 => by omega⟩ ?_ ?_
  · exact small_one (by omega) (by omega) (by omega) (by omega)
  · exact rangeSize_nat _ _
  · rintro i t nw h3 tk3 own I hi ⟨rfl, hall⟩ hI hnI hown F3 N3 _
    clear F2 N2
    (repeat' ((fail_if_success k_extra "stopM31"); k_extra "kst"))
    · refine ⟨_, _, _, _, rfl, by assumption, by assumption, hnI, fun z hz => if_neg hz, rfl, ?_⟩
      rename (valueAt kvs _).isSome = _ => hc
      intro j h1 h2
      by_cases hj : j = (i : Int)
      · subst hj; rwa [Int.zero_add] at hc
      · exact hall j h1 (by omega)
    · dsimp only [StepH]
      (repeat' ((fail_if_success k_extra "stopM31"); k_extra "kst"))
      rename (valueAt kvs _).isSome = _ => hc
      exact h _ _ _ _ (by assumption) (news_left (by assumption)) (.inr ⟨by omega, by omega, hc, fun j h1 h2 => hall j h1 (by omega)⟩)
  · rintro u' nw h3 tk3 ⟨rfl, hall⟩ F3 N3
    clear F2 N2
    (repeat' ((fail_if_success k_extra "stopM31"); k_extra "kst"))
    exact h _ _ _ _ (by assumption) (by assumption) (.inl ⟨rfl, fun j h1 h2 => hall j h1 (by omega)⟩)
end
end
end
example : True := by first | (w_top off; (fail_if_success walk1); trivial) | trivial
section
open PySem PySem.W PySem.Calls PyProof.Rows
section
theorem core_all {K : Kst} {cE : List DictEntry} {cN : Nat} {rV : List Value} {rN : Nat} {oO : Obj} {dV : List Value} {dN : Nat} {mO : Obj} {tV : List Value} {tN : Nat} {fV : List Value} {fN : Nat} {sO : Obj} {rest : List (Addr × Obj)} {d : Nat} (h : ∀ z ∈ K.all, z ≠ d) (hr : ∀ p ∈ rest, p.1 ≠ d) : ∀ p ∈ coreL K cE cN rV rN oO dV dN mO tV tN fV fN sO rest, p.1 ≠ d := fun p hp =>
  (core_mem' hp).elim (fun q => h _ (core_key q)) (hr p)
section
variable {w : World} {A₀ : Around} {E : Value → Shared → Prop} {s : Shared} {base h₀ : Heap} {env : Env} {outer : List Env} {L d u : Nat} {m mg mb : Str → Option Value} {loose : List Str} {mean : ExcName → Option Value}
  {K : Kst} {low lowest out : Int} {tl tw tu : Tok} {cN : Nat} {rV : List Value} {rN : Nat} {oO : Obj} {dV : List Value} {dN : Nat} {mO : Obj} {tV : List Value} {tN : Nat} {fV : List Value} {fN : Nat} {sO : Obj} {rest : List (Addr × Obj)}
example : True := by
  (k_with "k_all" => exact core_all (by assumption) (by with_reducible assumption))
  (k_with "stopM41" => first | (with_reducible show wpAny _ _ (exec (Stmt.For _ _ _ _ _) _) _ _ _) | (with_reducible show wpAny _ _ (pyIter (Value.ref _)) _ _ _))
  trivial
theorem app_left {l r : List (Addr × Obj)} {p : Addr × Obj} (h : p ∈ l) : p ∈ l ++ r := List.mem_append_left _ h
set_option maxRecDepth 100000 in
set_option maxHeartbeats 1000000 in
theorem victim_spec {Q : Value → Shared → Prop} {ks : List IR} {kl kn : Nat} {order : List Int} (C : CT w A₀ base h₀ env outer L d u mg mb loose mean) (O : K.Ok) (F : Fr h₀ L s.heap m)
    (N : News h₀ L s.heap (coreL K (cdE K low tl lowest tw out tu) cN rV rN oO dV dN mO tV tN fV fN sO rest))
    (hR : ∀ p ∈ rest, Off K p.1) (hd : IntsAre dV order) (hkl : (kl, listOf (ks.map fun i => Value.ref i.x).toArray kn) ∈ rest) (hks : ∀ i ∈ ks, i.o ∈ rest ∧ i.d K.h ∈ rest) (hkz : ks.length ≤ 10)
    (hex : ∃ r ∈ order, r ∉ ks.map (·.reg))
    (h : ∀ h' tk t r a b, Fr h₀ L h' m → News h₀ L h' (coreL K (cdE K low tl lowest tw out tu) cN rV rN oO dV dN mO tV tN fV fN sO rest) → order = a ++ r :: b → (∀ z ∈ a, z ∈ ks.map (·.reg)) → r ∉ ks.map (·.reg) →
      Q (.int r t) { s with heap := h', toks := tk }) :
    wpAny (model pg w) (AA d u (env :: outer)) (call (.ref 194) [.ref K.p, .ref kl] []) Q E s := by
  have fill : PySem.Challenge.rw_pb0351_01 = PySem.Challenge.rw_pb0351_01 ∧ Mine.hd.heap_1 = Mine.hd.heap_1 := by
    k_fill
    exact ⟨rfl, rfl⟩
  clear fill
  obtain ⟨B, X, T, hf, hke, hdp, hu⟩ := C
  have hO := kOk_facts O
  (repeat' ((fail_if_success k_extra "stopM41"); k_extra "kst"))
  rename Fr _ _ _ _ => FX
  rename News _ _ _ _ => NX
  rename Obj.IsDictOf (intKind _ _) _ _ => hko
  rename (@LT.lt Nat _ K.c _ ∧ _) => l1
  rename (_ == sysModules) = false => lo
  rename_i d' _ o' _ _ _ _
  have hsd9 : @LT.lt Nat _ K.sd d' := l1.2.2.2.2.2.2.2.2.2.2.2.2.2.1
  have hzd : ∀ z ∈ K.all, z ≠ d' := fun z hz => Nat.ne_of_lt (Nat.lt_of_le_of_lt (O.le_sd hz) hsd9)
  have hdR : ∀ p ∈ rest, @LT.lt Nat _ p.1 d' := by
    have l2 := l1
    iterate 14 (replace l2 := l2.2)
    exact of_allLt l2
  refine For_invVF FX rfl rfl ?_
  (repeat' ((fail_if_success k_extra "stopM41"); k_extra "kst"))
  refine iter_list0 (l := kl) (vs := ks.map fun i => Value.ref i.x) (n := kn) (fun i nw => ∃ ko kv, nw = (d', ko) :: coreL K (cdE K low tl lowest tw out tu) cN rV rN oO dV dN mO tV tN fV fN sO rest ∧ ko.IsDictOf (intK w) kv ∧ kv.length ≤ i ∧ ∀ k, (valueAt kv k).isSome = true ↔ k ∈ (ks.take i).map (·.reg)) rfl ?_ FX NX ⟨o', [], rfl, hko, Nat.zero_le _, fun k => by simp [vA_nil]⟩ ?_ ?_
  · k_mem
  · intro i v nw h3 tk3 own I hi zr1 hI hnI hown F3 N3 _
    refine hide fun Pz kPz => ?_
    obtain ⟨ko, kv, rfl, hkv, hkz', hmem⟩ := zr1
    refine kPz ?_
    clear kPz
    obtain ⟨q, hq, rfl⟩ : ∃ q, ks[i]? = some q ∧ v = .ref q.x := by
      rw [List.getElem?_map] at hi
      cases e : ks[i]? with
      | none => rw [e] at hi; cases hi
      | some q => rw [e] at hi; exact ⟨q, rfl, (Option.some.inj hi).symm⟩
    have hqm := List.mem_of_getElem? hq
    have hil : i < ks.length := by
      rcases Nat.lt_or_ge i ks.length with h1 | h1
      · exact h1
      · rw [List.getElem?_eq_none h1] at hq; cases hq
    obtain ⟨hq1, hq2⟩ := hks q hqm
    have hq3 : (q.x, instObj 108 q.dx) ∈ rest ++ own := app_left hq1
    have hq4 : (q.dx, dictOf (q.E K.h) q.n) ∈ rest ++ own := app_left hq2
    have hdown : ∀ p ∈ rest ++ own, p.1 ≠ d' := by
      intro p hp
      rcases List.mem_append.mp hp with hp | hp
      · exact neN (Nat.ne_of_lt (hdR p hp))
      · rcases hown p hp with e | e
        · rw [e]; exact neN (Nat.ne_of_gt (hI (d', o') (.head _)))
        · rw [e]; exact neN (Nat.ne_of_lt (hdR _ hkl))
    replace N3 : News _ _ _ ((d', ko) :: coreL K (cdE K low tl lowest tw out tu) cN rV rN oO dV dN mO tV tN fV fN sO (rest ++ own)) := N3
    clear NX FX
    (repeat' ((fail_if_success k_extra "stopM41"); k_extra "kst"))
    rename Obj.IsDictOf (intKind _ _) _ (stored _ _ _) => hd2
    refine ⟨_, _, _, (d', _) :: coreL K (cdE K low tl lowest tw out tu) cN rV rN oO dV dN mO tV tN fV fN sO rest, rfl, by assumption, by assumption, ?_, fun z hz => if_neg hz, _, _, rfl, hd2, ?_, ?_⟩
    · intro p hp
      rcases List.mem_cons.mp hp with rfl | hp
      · exact hnI (d', ko) (.head _)
      · exact hnI p (.tail _ hp)
    · exact Nat.le_trans (stored_length_le _ _ _) (Nat.succ_le_succ hkz')
    · intro k
      rw [vA_stored, List.take_add_one, hq]
      by_cases hk : k = q.reg
      · simp [hk]
      · simp only [hk, if_false, hmem k]
        simp [hk]
  · intro u' nw h3 tk3 zr1 F3 N3
    refine hide fun Pz kPz => ?_
    obtain ⟨ko, kv, rfl, hkv, hkz', hmem⟩ := zr1
    refine kPz ?_
    clear kPz
    rw [List.length_map, List.take_length] at hmem
    clear NX FX
    (repeat' ((fail_if_success k_extra "stopM41"); k_extra "kst"))
    refine For_invVF F3 rfl rfl ?_
    (repeat' ((fail_if_success k_extra "stopM41"); k_extra "kst"))
    refine iter_list0 (l := K.od) (vs := dV) (n := dN) (fun i nw => nw = (d', ko) :: coreL K (cdE K low tl lowest tw out tu) cN rV rN oO dV dN mO tV tN fV fN sO rest ∧ ∀ z ∈ order.take i, z ∈ ks.map (·.reg)) rfl ?_ F3 N3 ⟨rfl, fun z hz => by simp at hz⟩ ?_ ?_
    · k_mem
    · rintro i v nw h4 tk4 own I hi ⟨rfl, hall⟩ hI hnI hown F4 N4 _
      refine hide fun Pz kPz => ?_
      obtain ⟨r, t, rfl, hr⟩ := hd.at i v hi
      refine kPz ?_
      clear kPz
      replace N4 : News _ _ _ ((d', ko) :: coreL K (cdE K low tl lowest tw out tu) cN rV rN oO dV dN mO tV tN fV fN sO (rest ++ own)) := N4
      clear N3 F3
      (repeat' ((fail_if_success k_extra "stopM41"); k_extra "kst"))
      · rename (valueAt kv _).isSome = _ => hc
        refine ⟨_, _, _, _, rfl, by assumption, by assumption, hnI, fun z hz => if_neg hz, rfl, ?_⟩
        intro z hz
        rw [List.take_add_one, hr] at hz
        rcases List.mem_append.mp hz with hz | hz
        · exact hall z hz
        · have e : z = r := by simpa using hz
          subst e
          exact (hmem _).mp hc
      · dsimp only [StepH]
        (repeat' ((fail_if_success k_extra "stopM41"); k_extra "kst"))
        rename (valueAt kv _).isSome = _ => hc
        exact h _ _ _ r (order.take i) (order.drop (i + 1)) (by assumption) (core_drop (by assumption)) (split_get _ _ _ hr) hall (fun hn => by rw [(hmem r).mpr hn] at hc; cases hc)
    · rintro u4 nw h4 tk4 ⟨rfl, hall⟩ F4 N4
      exfalso
      obtain ⟨r, hr, hn⟩ := hex
      rw [hd.length, List.take_length] at hall
      exact hn (hall r hr)
end
end
end
example : True := by first | (w_top off; (fail_if_success walk1); trivial) | trivial
section
open PySem PySem.W PySem.Calls PyProof.Rows
section
section
variable {w : World} {A₀ : Around} {E : Value → Shared → Prop} {s : Shared} {base h₀ : Heap} {env : Env} {outer : List Env} {L d u : Nat} {m mg mb : Str → Option Value} {loose : List Str} {mean : ExcName → Option Value}
  {K : Kst} {low lowest out : Int} {tl tw tu : Tok} {cN : Nat} {rV : List Value} {rN : Nat} {oO : Obj} {dV : List Value} {dN : Nat} {mO : Obj} {tV : List Value} {tN : Nat} {fV : List Value} {fN : Nat} {sO : Obj} {ext : List (Addr × Obj)}
abbrev tupS (i : IR) (sl : Int) (t3 t4 t5 ts : Tok) : Obj := tupO [.str "STR" t3, .int i.reg t4, .int 11 t5, .int sl ts]
theorem spill_its {R : Result → Shared → Prop} {A B : List IR} {i : IR} {fs : List Int} {oa ob spl : List (Int × Nat)} {y : Nat} (C : CT w A₀ base h₀ env outer L d u mg mb loose mean) (hd9 : d < 890) (hu9 : u < 8900) (O : K.Ok) (F : Fr h₀ L s.heap m)
    (N : News h₀ L s.heap (coreL K (cdE K low tl lowest tw out tu) cN rV rN oO dV dN mO tV tN fV fN sO (itL K.h (A ++ i :: B) ++ ext))) (W : WFL K (A ++ i :: B) ext)
    (hI : IntsAre fV fs) (hfs : fs.length < 1000) (hrz : rV.length < 10000)
    (ha : i.reg ∉ oa.map (·.1)) (hb : i.reg ∉ ob.map (·.1)) (hd : oO.IsDictOf (intK w) (refs (oa ++ (i.reg, y) :: ob))) (hdV : IntsAre dV ((oa ++ (i.reg, y) :: ob).map (·.1))) (hoz : oa.length + ob.length < 100)
    (hs : sO.IsDictOf (intK w) (refs spl)) (hsz : spl.length ≤ 100) (hfr : (tempF low lowest fs).1 ∉ spl.map (·.1))
    (h : ∀ h' tk tp oO' sO' t1 t2 tm' tr' ts' ta' t3 t4 t5 fV' fN' dV' dN', IntsAre fV' (tempF low lowest fs).2.2.2 → Fr h₀ L h' m → oO'.IsDictOf (intK w) (refs (oa ++ ob)) → sO'.IsDictOf (intK w) (refs (spl ++ [((tempF low lowest fs).1, i.x)])) → IntsAre dV' ((oa ++ ob).map (·.1)) →
      News h₀ L h' (coreL K (cdE K (tempF low lowest fs).2.1 t1 (tempF low lowest fs).2.2.1 t2 out tu) cN (rV ++ [.ref tp]) (rN + 1) oO' dV' dN' mO tV tN fV' fN' sO'
        (itL K.h (A ++ i.spilt (tempF low lowest fs).1 tm' tr' ts' ta' :: B) ++ ((tp, tupS i (tempF low lowest fs).1 t3 t4 t5 ts') :: ext))) →
      WFL K (A ++ i.spilt (tempF low lowest fs).1 tm' tr' ts' ta' :: B) ((tp, tupS i (tempF low lowest fs).1 t3 t4 t5 ts') :: ext) → (∀ p ∈ ext, @LT.lt Nat _ p.1 tp) →
      R (.ok (.ret .none)) { s with heap := h', toks := tk }) :
    codeAny (model pg w) (AA d u (env :: outer)) (.call (.ref 277) ⟨[.ref K.c, .ref i.x], []⟩) R s := by
  obtain ⟨hi, hap⟩ := W.apart
  rw [List.map_append, List.map_cons] at hdV
  refine hide fun Pz kPz => ?_
  obtain ⟨va, vb, t', rfl, hva, hvb⟩ := ints_nth hdV _ _ _ rfl
  refine kPz ?_
  clear kPz
  have e1 := hva.length
  have e2 := hvb.length
  rw [List.length_map] at e1 e2
  refine spill_code (rest := itL K.h A ++ (itL K.h B ++ ext)) (x := i.x) (dx := i.dx) (reg := i.reg) (fs := fs) (svs := refs spl) (va := va) (vb := vb) C hd9 hu9 O F (core_sub N focus_in) (fun p hp => (hap p hp).1) hi (fun p hp => (hap p hp).2.1) (fun p hp => (hap p hp).2.2)
    hI hfs hrz hd (by rw [refs_len, List.length_append, List.length_cons]; omega) (refs_isSome.mpr (by simp)) hva hvb ha (by omega) hs (by rw [refs_len]; exact hsz) ?_
  intro h' tk tp oO' sO' t1 t2 tm' tr' ts' ta' t3 t4 t5 fV' fN' hI' F' hd' hs' N' htp hxtp hrt
  rw [refs_without ha hb] at hd'
  rw [refs_stored hfr] at hs'
  have hlt : ∀ j ∈ A ++ i :: B, @LT.lt Nat _ j.x tp := by
    intro j hj
    rcases List.mem_append.mp hj with q | q
    · exact hrt _ (List.mem_append_left _ (itL_o q))
    · rcases List.mem_cons.mp q with rfl | q
      · exact hxtp
      · exact hrt _ (List.mem_append_right _ (List.mem_append_left _ (itL_o q)))
  refine h h' tk tp oO' sO' t1 t2 tm' tr' ts' ta' t3 t4 t5 fV' fN' (va ++ vb) _ hI' F' hd' hs' (by rw [List.map_append]; exact hva.append hvb) (core_sub N' focus_out) ?_ (fun p hp => hrt p (List.mem_append_right _ (List.mem_append_right _ hp)))
  exact (W.more (q := (tp, _)) htp hlt).same rfl rfl
theorem claim_its {Q : Value → Shared → Prop} {A B : List IR} {i : IR} {r : Int} {t' : Tok} {own : List (Int × Nat)} (C : CT w A₀ base h₀ env outer L d u mg mb loose mean) (O : K.Ok) (F : Fr h₀ L s.heap m)
    (N : News h₀ L s.heap (coreL K (cdE K low tl lowest tw out tu) cN rV rN oO dV dN mO tV tN fV fN sO (itL K.h (A ++ i :: B) ++ ext))) (W : WFL K (A ++ i :: B) ext)
    (hr : r ∉ own.map (·.1)) (hd : oO.IsDictOf (intK w) (refs own)) (hdV : IntsAre dV (own.map (·.1))) (hoz : own.length < 100)
    (h : ∀ h' tk oO' dV' dN', Fr h₀ L h' m → oO'.IsDictOf (intK w) (refs (own ++ [(r, i.x)])) → IntsAre dV' ((own ++ [(r, i.x)]).map (·.1)) →
      News h₀ L h' (coreL K (cdE K low tl lowest tw out tu) cN rV rN oO' dV' dN' mO tV tN fV fN sO (itL K.h (A ++ i.held r t' :: B) ++ ext)) → WFL K (A ++ i.held r t' :: B) ext →
      Q (.int r t') { s with heap := h', toks := tk }) :
    wpAny (model pg w) (AA d u (env :: outer)) (call (.ref 179) [.ref K.p, .ref i.x, .int r t'] []) Q E s := by
  obtain ⟨hi, hap⟩ := W.apart
  have e1 := hdV.length
  rw [List.length_map] at e1
  refine claim_spec (rest := itL K.h A ++ (itL K.h B ++ ext)) (x := i.x) (dx := i.dx) C O F (core_sub N focus_in) (fun p hp => (hap p hp).1) hi (fun p hp => (hap p hp).2.1) (fun p hp => (hap p hp).2.2)
    hd (by rw [refs_len]; omega) (refs_none hr) (by omega) ?_
  intro h' tk oO' F' hd' N'
  rw [refs_stored hr] at hd'
  exact h h' tk oO' _ _ F' hd' (by rw [List.map_append]; exact ints_snoc hdV) (core_sub N' focus_out0) (W.same rfl rfl)
example : True := by
  (k_with "stopM51" => first | (with_reducible show wpAny _ _ (call (Value.ref 172) _ _) _ _ _) | (with_reducible show wpAny _ _ (call (Value.ref 194) _ _) _ _ _) | (with_reducible show wpAny _ _ (call (Value.ref 179) _ _) _ _ _) | (with_reducible show wpAny _ _ (call (Value.ref (Kst.sp _)) _ _) _ _ _))
  trivial
set_option maxRecDepth 100000 in
set_option maxHeartbeats 1000000 in
theorem ptake_spec {Q : Value → Shared → Prop} {its ks : List IR} {q : IR} {fs : List Int} {own spl : List (Int × Nat)} {kl kn : Nat} (C : CT w A₀ base h₀ env outer L d u mg mb loose mean) (hd9 : d < 880) (hu9 : u < 8800) (O : K.Ok) (F : Fr h₀ L s.heap m)
    (N : News h₀ L s.heap (coreL K (cdE K low tl lowest tw out tu) cN rV rN oO dV dN mO tV tN fV fN sO (itL K.h its ++ ext))) (W : WFL K its ext)
    (hI : IntsAre fV fs) (hfs : fs.length < 1000) (hrz : rV.length < 10000)
    (hd : oO.IsDictOf (intK w) (refs own)) (hdV : IntsAre dV (own.map (·.1))) (hoz : own.length < 100) (hnd : (own.map (·.1)).Nodup)
    (hs : sO.IsDictOf (intK w) (refs spl)) (hsz : spl.length ≤ 100) (hfr : (tempF low lowest fs).1 ∉ spl.map (·.1))
    (hq : q ∈ its) (hqo : ∀ p ∈ own, p.2 ≠ q.x) (hold : ∀ p ∈ own, ∃ v ∈ its, v.x = p.2 ∧ v.reg = p.1)
    (hks : ∀ i ∈ ks, i ∈ its) (hkl : (kl, listOf (ks.map fun i => Value.ref i.x).toArray kn) ∈ ext) (hkz : ks.length ≤ 2)
    (hA : ∀ h' tk r t oO' dV' dN', (0 ≤ r ∧ r < K.cnt ∧ r ∉ own.map (·.1) ∧ ∀ j, 0 ≤ j → j < r → j ∈ own.map (·.1)) → Fr h₀ L h' m → oO'.IsDictOf (intK w) (refs (own ++ [(r, q.x)])) → IntsAre dV' ((own ++ [(r, q.x)]).map (·.1)) →
      News h₀ L h' (coreL K (cdE K low tl lowest tw out tu) cN rV rN oO' dV' dN' mO tV tN fV fN sO (itL K.h (upd its q.x (·.held r t)) ++ ext)) → WFL K (upd its q.x (·.held r t)) ext →
      Q (.int r t) { s with heap := h', toks := tk })
    (hB : ∀ h' tk v oa ob r t tp oO' sO' dV' dN' t1 t2 tm' tr' ts' ta' t3 t4 t5 fV' fN', (∀ j, 0 ≤ j → j < K.cnt → j ∈ own.map (·.1)) → v ∈ its → v.reg = r → own = oa ++ (r, v.x) :: ob → (∀ z ∈ oa.map (·.1), z ∈ ks.map (·.reg)) → r ∉ ks.map (·.reg) →
      Fr h₀ L h' m → IntsAre fV' (tempF low lowest fs).2.2.2 → oO'.IsDictOf (intK w) (refs (oa ++ ob ++ [(r, q.x)])) → IntsAre dV' ((oa ++ ob ++ [(r, q.x)]).map (·.1)) → sO'.IsDictOf (intK w) (refs (spl ++ [((tempF low lowest fs).1, v.x)])) →
      News h₀ L h' (coreL K (cdE K (tempF low lowest fs).2.1 t1 (tempF low lowest fs).2.2.1 t2 out tu) cN (rV ++ [.ref tp]) (rN + 1) oO' dV' dN' mO tV tN fV' fN' sO'
        (itL K.h (upd (upd its v.x (·.spilt (tempF low lowest fs).1 tm' tr' ts' ta')) q.x (·.held r t)) ++ ((tp, tupS v (tempF low lowest fs).1 t3 t4 t5 ts') :: ext))) →
      WFL K (upd (upd its v.x (·.spilt (tempF low lowest fs).1 tm' tr' ts' ta')) q.x (·.held r t)) ((tp, tupS v (tempF low lowest fs).1 t3 t4 t5 ts') :: ext) →
      Q (.int r t) { s with heap := h', toks := tk }) :
    wpAny (model pg w) (AA d u (env :: outer)) (call (.ref 187) [.ref K.p, .ref q.x, .ref kl] []) Q E s := by
  have fill : PySem.Challenge.rw_pb0351_01 = PySem.Challenge.rw_pb0351_01 ∧ Mine.hd.heap_1 = Mine.hd.heap_1 := by
    k_fill
    exact ⟨rfl, rfl⟩
  clear fill
  obtain ⟨B, X, T, hf, hke, hdp, hu⟩ := C
  have hO := kOk_facts O
  (repeat' ((fail_if_success k_extra "stopM51"); k_extra "kst"))
  (try dsimp only [List.cons_append, List.nil_append])
  refine free_spec (kvs := refs own) (by k_extra "tb_rel") O (by assumption) (by assumption) W.off (by assumption) ?_
  rename News _ _ _ _ => NX
  rename Fr _ _ _ _ => FX
  intro h1 tk1 t r F1 N1 hfree
  clear NX
  rcases hfree with ⟨rfl, hall⟩ | ⟨hr0, hr1, hr2, hr3⟩
  · have hallk : ∀ j, 0 ≤ j → j < K.cnt → j ∈ own.map (·.1) := fun j h1 h2 => refs_isSome.mp (hall j h1 h2)
    (repeat' ((fail_if_success k_extra "stopM51"); k_extra "kst"))
    (try dsimp only [List.cons_append, List.nil_append])
    refine victim_spec (ks := ks) (kl := kl) (kn := kn) (order := own.map (·.1)) (by k_extra "tb_rel") O (by assumption) (by assumption) W.off hdV (List.mem_append_right _ hkl) (fun i hi => ⟨List.mem_append_left _ (itL_o (hks i hi)), List.mem_append_left _ (itL_d (hks i hi))⟩) (by omega) ?_ ?_
    · refine hide fun Pz kPz => ?_
      obtain ⟨r, h0, h1, h2⟩ := three (kr := ks.map (·.reg)) (by rw [List.length_map]; exact hkz)
      refine kPz ?_
      clear kPz
      exact ⟨r, hallk r h0 (by omega), h2⟩
    rename News _ _ _ _ => NX
    rename Fr _ _ _ _ => FX
    intro h2 tk2 t2 r a b F2 N2 hab hka hkr
    clear NX FX
    refine hide fun Pz kPz => ?_
    obtain ⟨oa, orb, rfl, rfl, hob⟩ := List.map_eq_append_iff.mp hab
    refine kPz ?_
    clear kPz
    refine hide fun Pz kPz => ?_
    obtain ⟨⟨r', y⟩, ob, rfl, hr', rfl⟩ := List.map_eq_cons_iff.mp hob
    refine kPz ?_
    clear kPz
    dsimp only at hr'
    subst hr'
    refine hide fun Pz kPz => ?_
    obtain ⟨v, hv, hvx, hvr⟩ := hold (r', y) (by simp)
    refine kPz ?_
    clear kPz
    dsimp only at hvx hvr
    subst hvx
    rw [List.map_append, List.map_cons] at hnd
    have hna : r' ∉ oa.map (·.1) := fun hm => (List.nodup_append.mp hnd).2.2 r' hm r' (.head _) rfl
    have hnb : r' ∉ ob.map (·.1) := (List.nodup_cons.mp (List.nodup_append.mp hnd).2.1).1
    have hat := refs_at (b := ob) (x := v.x) hna
    have hoz' : oa.length + ob.length < 99 := by
      rw [List.length_append, List.length_cons] at hoz; omega
    (repeat' ((fail_if_success k_extra "stopM51"); k_extra "kst"))
    have hvq : v.x ≠ q.x := hqo (r', v.x) (by simp)
    subst hvr
    refine hide fun Pz kPz => ?_
    obtain ⟨VA, VB, rfl⟩ := mem_app hv
    refine kPz ?_
    clear kPz
    refine call_meth (f := .ref 277) (self := .ref K.c) (by assumption) (by k_mem) ?_
    refine spill_its (fs := fs) (oa := oa) (ob := ob) (spl := spl) (y := v.x) (by k_extra "tb_rel") (by show d + 1 < 890; omega) (by show u + 3 < 8900; omega) O (by assumption) (by assumption) W hI hfs hrz hna hnb hd hdV (by omega) hs hsz hfr ?_
    rename News _ _ _ _ => NX
    rename Fr _ _ _ _ => FX
    intro h3 tk3 tp oO3 sO3 t1 t2' tm' tr' ts' ta' t3 t4 t5 fV3 fN3 dV3 dN3 hI3 F3 hd3 hs3 hdV3 N3 W3 hlt3
    clear NX FX
    have hq3 : q ∈ upd (VA ++ v :: VB) v.x (·.spilt (tempF low lowest fs).1 tm' tr' ts' ta') := upd_mem hq (fun e => hvq e.symm)
    simp only [W.upd] at hq3
    obtain ⟨QA, QB, hqe⟩ := mem_app hq3
    simp only [hqe] at N3 W3
    (repeat' ((fail_if_success k_extra "stopM51"); k_extra "kst"))
    (try dsimp only [List.cons_append, List.nil_append])
    refine claim_its (own := oa ++ ob) (by k_extra "tb_rel") O (by assumption) (by assumption) W3 (by rw [List.map_append]; exact fun hm => (List.mem_append.mp hm).elim hna hnb) hd3 hdV3 (by rw [List.length_append]; omega) ?_
    rename News _ _ _ _ => NX
    rename Fr _ _ _ _ => FX
    intro h4 tk4 oO' dV' dN' F4 hd' hdV' N4 W4
    clear NX FX
    have hu := W3.upd (fun i => i.held v.reg t2)
    have hw := W.upd (fun i => i.spilt (tempF low lowest fs).1 tm' tr' ts' ta')
    rw [← hqe, ← hw] at hu
    rw [← hu] at W4 N4
    (repeat' ((fail_if_success k_extra "stopM51"); k_extra "kst"))
    exact hB _ _ v oa ob v.reg _ tp oO' sO3 dV' _ t1 t2' tm' tr' ts' ta' t3 t4 t5 fV3 _ hallk hv rfl rfl hka hkr (by assumption) hI3 hd' hdV' hs3 (by assumption) W4
  · refine hide fun Pz kPz => ?_
    obtain ⟨QA, QB, rfl⟩ := mem_app hq
    refine kPz ?_
    clear kPz
    (repeat' ((fail_if_success k_extra "stopM51"); k_extra "kst"))
    (try dsimp only [List.cons_append, List.nil_append])
    have hrn : r ∉ own.map (·.1) := fun hm => by rw [refs_isSome.mpr hm] at hr2; cases hr2
    refine claim_its (own := own) (by k_extra "tb_rel") O (by assumption) (by assumption) W hrn hd hdV hoz ?_
    rename News _ _ _ _ => NX
    rename Fr _ _ _ _ => FX
    intro h2 tk2 oO' dV' dN' F2 hd' hdV' N2 W2
    clear NX FX
    (repeat' ((fail_if_success k_extra "stopM51"); k_extra "kst"))
    simp only [W.upd] at hA
    exact hA _ _ _ _ _ _ _ ⟨hr0, hr1, hrn, fun j h1 h2 => refs_isSome.mp (hr3 j h1 h2)⟩ (by assumption) hd' hdV' (by assumption) W2
end
end
end
example : True := by first | (w_top off; (fail_if_success walk1); trivial) | trivial
section
open PySem PySem.W PySem.Calls PyProof.Rows
section

/-- what taking a register does: a free one, the lowest; else the longest held that is not kept, its item stored in a word -/
def Took (K : Kst) (its ks : List IR) (q : IR) (low lowest : Int) (fs : List Int) (own spl : List (Int × Nat)) (rV : List Value) (ext : List (Addr × Obj)) (r low' lowest' : Int) (fs' : List Int) (own' spl' : List (Int × Nat)) (its' : List IR) (rV' : List Value) (ext' : List (Addr × Obj)) : Prop :=
  ((0 ≤ r ∧ r < K.cnt ∧ r ∉ own.map (·.1) ∧ ∀ j, 0 ≤ j → j < r → j ∈ own.map (·.1)) ∧ own' = own ++ [(r, q.x)] ∧ (∃ t, its' = upd its q.x (·.held r t)) ∧ low' = low ∧ lowest' = lowest ∧ fs' = fs ∧ spl' = spl ∧ rV' = rV ∧ ext' = ext) ∨
  ((∀ j, 0 ≤ j → j < K.cnt → j ∈ own.map (·.1)) ∧ ∃ v oa ob t tm tr ts ta t3 t4 t5 tp, v ∈ its ∧ v.reg = r ∧ own = oa ++ (r, v.x) :: ob ∧ (∀ z ∈ oa.map (·.1), z ∈ ks.map (·.reg)) ∧ r ∉ ks.map (·.reg) ∧
    own' = oa ++ ob ++ [(r, q.x)] ∧ its' = upd (upd its v.x (·.spilt (tempF low lowest fs).1 tm tr ts ta)) q.x (·.held r t) ∧ low' = (tempF low lowest fs).2.1 ∧ lowest' = (tempF low lowest fs).2.2.1 ∧ fs' = (tempF low lowest fs).2.2.2 ∧
    spl' = spl ++ [((tempF low lowest fs).1, v.x)] ∧ rV' = rV ++ [.ref tp] ∧ ext' = (tp, tupS v (tempF low lowest fs).1 t3 t4 t5 ts) :: ext)
section
variable {w : World} {A₀ : Around} {E : Value → Shared → Prop} {s : Shared} {base h₀ : Heap} {env : Env} {outer : List Env} {L d u : Nat} {m mg mb : Str → Option Value} {loose : List Str} {mean : ExcName → Option Value}
  {K : Kst} {low lowest out : Int} {tl tw tu : Tok} {cN : Nat} {rV : List Value} {rN : Nat} {oO : Obj} {dV : List Value} {dN : Nat} {mO : Obj} {tV : List Value} {tN : Nat} {fV : List Value} {fN : Nat} {sO : Obj} {ext : List (Addr × Obj)}
example : True := by
  (k_with "stopM61" => first | (with_reducible show wpAny _ _ (call (Value.ref 187) _ _) _ _ _))
  trivial
set_option maxRecDepth 100000 in
set_option maxHeartbeats 1000000 in
theorem ctake_spec {Q : Value → Shared → Prop} {its ks : List IR} {q : IR} {fs : List Int} {own spl : List (Int × Nat)} {kl kn : Nat} (C : CT w A₀ base h₀ env outer L d u mg mb loose mean) (hd9 : d < 870) (hu9 : u < 8700) (O : K.Ok) (F : Fr h₀ L s.heap m)
    (N : News h₀ L s.heap (coreL K (cdE K low tl lowest tw out tu) cN rV rN oO dV dN mO tV tN fV fN sO (itL K.h its ++ ext))) (W : WFL K its ext)
    (hI : IntsAre fV fs) (hfs : fs.length < 1000) (hrz : rV.length < 10000)
    (hd : oO.IsDictOf (intK w) (refs own)) (hdV : IntsAre dV (own.map (·.1))) (hoz : own.length < 100) (hnd : (own.map (·.1)).Nodup)
    (hs : sO.IsDictOf (intK w) (refs spl)) (hsz : spl.length ≤ 100) (hfr : (tempF low lowest fs).1 ∉ spl.map (·.1))
    (hq : q ∈ its) (hqo : ∀ p ∈ own, p.2 ≠ q.x) (hold : ∀ p ∈ own, ∃ v ∈ its, v.x = p.2 ∧ v.reg = p.1)
    (hks : ∀ i ∈ ks, i ∈ its) (hkl : (kl, listOf (ks.map fun i => Value.ref i.x).toArray kn) ∈ ext) (hkz : ks.length ≤ 2)
    (hA : ∀ h' tk r t oO' dV' dN', (0 ≤ r ∧ r < K.cnt ∧ r ∉ own.map (·.1) ∧ ∀ j, 0 ≤ j → j < r → j ∈ own.map (·.1)) → Fr h₀ L h' m → oO'.IsDictOf (intK w) (refs (own ++ [(r, q.x)])) → IntsAre dV' ((own ++ [(r, q.x)]).map (·.1)) →
      News h₀ L h' (coreL K (cdE K low tl lowest tw out tu) cN rV rN oO' dV' dN' mO tV tN fV fN sO (itL K.h (upd its q.x (·.held r t)) ++ ext)) → WFL K (upd its q.x (·.held r t)) ext →
      Q (.int r t) { s with heap := h', toks := tk })
    (hB : ∀ h' tk v oa ob r t tp oO' sO' dV' dN' t1 t2 tm' tr' ts' ta' t3 t4 t5 fV' fN', (∀ j, 0 ≤ j → j < K.cnt → j ∈ own.map (·.1)) → v ∈ its → v.reg = r → own = oa ++ (r, v.x) :: ob → (∀ z ∈ oa.map (·.1), z ∈ ks.map (·.reg)) → r ∉ ks.map (·.reg) →
      Fr h₀ L h' m → IntsAre fV' (tempF low lowest fs).2.2.2 → oO'.IsDictOf (intK w) (refs (oa ++ ob ++ [(r, q.x)])) → IntsAre dV' ((oa ++ ob ++ [(r, q.x)]).map (·.1)) → sO'.IsDictOf (intK w) (refs (spl ++ [((tempF low lowest fs).1, v.x)])) →
      News h₀ L h' (coreL K (cdE K (tempF low lowest fs).2.1 t1 (tempF low lowest fs).2.2.1 t2 out tu) cN (rV ++ [.ref tp]) (rN + 1) oO' dV' dN' mO tV tN fV' fN' sO'
        (itL K.h (upd (upd its v.x (·.spilt (tempF low lowest fs).1 tm' tr' ts' ta')) q.x (·.held r t)) ++ ((tp, tupS v (tempF low lowest fs).1 t3 t4 t5 ts') :: ext))) →
      WFL K (upd (upd its v.x (·.spilt (tempF low lowest fs).1 tm' tr' ts' ta')) q.x (·.held r t)) ((tp, tupS v (tempF low lowest fs).1 t3 t4 t5 ts') :: ext) →
      Q (.int r t) { s with heap := h', toks := tk }) :
    wpAny (model pg w) (AA d u (env :: outer)) (call (.ref 270) [.ref K.c, .ref q.x, .ref kl] []) Q E s := by
  have fill : PySem.Challenge.rw_pb0351_01 = PySem.Challenge.rw_pb0351_01 ∧ Mine.hd.heap_1 = Mine.hd.heap_1 := by
    k_fill
    exact ⟨rfl, rfl⟩
  clear fill
  obtain ⟨B, X, T, hf, hke, hdp, hu⟩ := C
  have hO := kOk_facts O
  (repeat' ((fail_if_success k_extra "stopM61"); k_extra "kst"))
  (try dsimp only [List.cons_append, List.nil_append])
  refine ptake_spec (its := its) (ks := ks) (q := q) (fs := fs) (own := own) (spl := spl) (kl := kl) (kn := kn) (by k_extra "tb_rel") (by show d + 1 < 880; omega) (by show u + 3 < 8800; omega) O (by assumption) (by assumption) W hI hfs hrz hd hdV hoz hnd hs hsz hfr hq hqo hold hks hkl hkz ?_ ?_
  · rename News _ _ _ _ => NX
    rename Fr _ _ _ _ => FX
    intro h' tk r t oO' dV' dN' hr F1 hd1 hdV1 N1 W1
    clear NX FX
    (repeat' ((fail_if_success k_extra "stopM61"); k_extra "kst"))
    exact hA _ _ r t _ _ _ hr (by assumption) hd1 hdV1 (by assumption) W1
  · rename News _ _ _ _ => NX
    rename Fr _ _ _ _ => FX
    intro h' tk v oa ob r t tp oO' sO' dV' dN' t1 t2 tm' tr' ts' ta' t3 t4 t5 fV' fN' a1 a2 a3 a4 a5 a6 F1 a7 a8 a9 a10 N1 W1
    clear NX FX
    (repeat' ((fail_if_success k_extra "stopM61"); k_extra "kst"))
    exact hB _ _ v oa ob r t tp _ _ _ _ t1 t2 tm' tr' ts' ta' t3 t4 t5 fV' fN' a1 a2 a3 a4 a5 a6 (by assumption) a7 a8 a9 a10 (by assumption) W1
theorem take_spec {Q : Value → Shared → Prop} {its ks : List IR} {q : IR} {fs : List Int} {own spl : List (Int × Nat)} {kl kn : Nat} (C : CT w A₀ base h₀ env outer L d u mg mb loose mean) (hd9 : d < 870) (hu9 : u < 8700) (O : K.Ok) (F : Fr h₀ L s.heap m)
    (N : News h₀ L s.heap (coreL K (cdE K low tl lowest tw out tu) cN rV rN oO dV dN mO tV tN fV fN sO (itL K.h its ++ ext))) (W : WFL K its ext)
    (hI : IntsAre fV fs) (hfs : fs.length < 1000) (hrz : rV.length < 10000)
    (hd : oO.IsDictOf (intK w) (refs own)) (hdV : IntsAre dV (own.map (·.1))) (hoz : own.length < 100) (hnd : (own.map (·.1)).Nodup)
    (hs : sO.IsDictOf (intK w) (refs spl)) (hsz : spl.length ≤ 100) (hfr : (tempF low lowest fs).1 ∉ spl.map (·.1))
    (hq : q ∈ its) (hqo : ∀ p ∈ own, p.2 ≠ q.x) (hold : ∀ p ∈ own, ∃ v ∈ its, v.x = p.2 ∧ v.reg = p.1)
    (hks : ∀ i ∈ ks, i ∈ its) (hkl : (kl, listOf (ks.map fun i => Value.ref i.x).toArray kn) ∈ ext) (hkz : ks.length ≤ 2)
    (h : ∀ h' tk r t low' lowest' fs' own' spl' its' rV' rN' ext' oO' sO' dV' dN' t1 t2 fV' fN', Took K its ks q low lowest fs own spl rV ext r low' lowest' fs' own' spl' its' rV' ext' →
      Fr h₀ L h' m → IntsAre fV' fs' → oO'.IsDictOf (intK w) (refs own') → IntsAre dV' (own'.map (·.1)) → sO'.IsDictOf (intK w) (refs spl') →
      News h₀ L h' (coreL K (cdE K low' t1 lowest' t2 out tu) cN rV' rN' oO' dV' dN' mO tV tN fV' fN' sO' (itL K.h its' ++ ext')) → WFL K its' ext' →
      Q (.int r t) { s with heap := h', toks := tk }) :
    wpAny (model pg w) (AA d u (env :: outer)) (call (.ref 270) [.ref K.c, .ref q.x, .ref kl] []) Q E s := by
  refine ctake_spec C hd9 hu9 O F N W hI hfs hrz hd hdV hoz hnd hs hsz hfr hq hqo hold hks hkl hkz ?_ ?_
  · intro h' tk r t oO' dV' dN' hr F1 hd1 hdV1 N1 W1
    exact h h' tk r t _ _ _ _ _ _ _ _ _ _ _ _ _ _ _ _ _ (.inl ⟨hr, rfl, ⟨t, rfl⟩, rfl, rfl, rfl, rfl, rfl, rfl⟩) F1 hI hd1 hdV1 hs N1 W1
  · intro h' tk v oa ob r t tp oO' sO' dV' dN' t1 t2 tm' tr' ts' ta' t3 t4 t5 fV' fN' a1 a2 a3 a4 a5 a6 F1 a7 a8 a9 a10 N1 W1
    exact h h' tk r t _ _ _ _ _ _ _ _ _ _ _ _ _ _ _ _ _ (.inr ⟨a1, v, oa, ob, t, tm', tr', ts', ta', t3, t4, t5, tp, a2, a3, a4, a5, a6, rfl, rfl, rfl, rfl, rfl, rfl, rfl, rfl⟩) F1 a7 a8 a9 a10 N1 W1
end
end
end
example : True := by first | (w_top off; (fail_if_success walk1); trivial) | trivial
section
open PySem PySem.W PySem.Calls PyProof.Rows
section
abbrev IR.back (i : IR) : IR := { i with mode := i.was, tm := i.ta }
abbrev tupD (r : Int) (sl : Int) (t3 t4 t5 ts : Tok) : Obj := tupO [.str "LDR" t3, .int r t4, .int 11 t5, .int sl ts]
theorem upd_mem_at {its : List IR} {i : IR} {f : IR → IR} (h : i ∈ its) : f i ∈ upd its i.x f := List.mem_map.mpr ⟨i, h, if_pos rfl⟩
theorem took_q {K : Kst} {its ks : List IR} {q : IR} {low lowest : Int} {fs : List Int} {own spl : List (Int × Nat)} {rV : List Value} {ext : List (Addr × Obj)} {r low' lowest' : Int} {fs' : List Int} {own' spl' : List (Int × Nat)} {its' : List IR} {rV' : List Value} {ext' : List (Addr × Obj)}
    (T : Took K its ks q low lowest fs own spl rV ext r low' lowest' fs' own' spl' its' rV' ext') (hq : q ∈ its) (hqo : ∀ p ∈ own, p.2 ≠ q.x) : ∃ t, q.held r t ∈ its' := by
  rcases T with ⟨_, _, ⟨t, rfl⟩, _⟩ | ⟨_, v, oa, ob, t, tm, tr, ts, ta, t3, t4, t5, tp, _, _, ho, _, _, _, hi, _⟩
  · exact ⟨t, upd_mem_at hq⟩
  · refine ⟨t, ?_⟩
    rw [hi]
    have hvq : v.x ≠ q.x := hqo (r, v.x) (by rw [ho]; simp)
    exact upd_mem_at (f := fun i => i.held r t) (upd_mem hq (fun e => hvq e.symm))
theorem took_spl {K : Kst} {its ks : List IR} {q : IR} {low lowest : Int} {fs : List Int} {own spl : List (Int × Nat)} {rV : List Value} {ext : List (Addr × Obj)} {r low' lowest' : Int} {fs' : List Int} {own' spl' : List (Int × Nat)} {its' : List IR} {rV' : List Value} {ext' : List (Addr × Obj)}
    (T : Took K its ks q low lowest fs own spl rV ext r low' lowest' fs' own' spl' its' rV' ext') : ∃ z, spl' = spl ++ z ∧ z.length ≤ 1 ∧ (∀ p ∈ z, p.1 = (tempF low lowest fs).1) ∧ rV'.length ≤ rV.length + 1 ∧ fs'.length ≤ fs.length := by
  rcases T with ⟨_, _, _, _, _, hf, hs, hr, _⟩ | ⟨_, v, oa, ob, t, tm, tr, ts, ta, t3, t4, t5, tp, _, _, ho, _, _, _, hi, _, _, hf, hs, hr, _⟩
  · exact ⟨[], by simp [hs], by simp, by simp, by simp [hr], by simp [hf]⟩
  · refine ⟨[((tempF low lowest fs).1, v.x)], hs, by simp, by simp, by simp [hr], ?_⟩
    rw [hf]
    unfold tempF
    split
    · simp
    · simp
section
variable {w : World} {A₀ : Around} {E : Value → Shared → Prop} {s : Shared} {base h₀ : Heap} {env : Env} {outer : List Env} {L d u : Nat} {m mg mb : Str → Option Value} {loose : List Str} {mean : ExcName → Option Value}
  {K : Kst} {low lowest out : Int} {tl tw tu : Tok} {cN : Nat} {rV : List Value} {rN : Nat} {oO : Obj} {dV : List Value} {dN : Nat} {mO : Obj} {tV : List Value} {tN : Nat} {fV : List Value} {fN : Nat} {sO : Obj} {ext : List (Addr × Obj)}
example : True := by
  (k_with "stopM71" => first | (with_reducible show wpAny _ _ (call (Value.ref 270) _ _) _ _ _) | (with_reducible show wpAny _ _ (call (Value.ref 42) _ _) _ _ _) | (with_reducible show wpAny _ _ (call (Value.ref 262) _ _) _ _ _))
  trivial
set_option maxRecDepth 100000 in
set_option maxHeartbeats 1000000 in
theorem unspill_spec {Q : Value → Shared → Prop} {its ks : List IR} {q : IR} {fs : List Int} {own spl : List (Int × Nat)} {kl kn : Nat} (C : CT w A₀ base h₀ env outer L d u mg mb loose mean) (hd9 : d < 860) (hu9 : u < 8600) (O : K.Ok) (F : Fr h₀ L s.heap m)
    (N : News h₀ L s.heap (coreL K (cdE K low tl lowest tw out tu) cN rV rN oO dV dN mO tV tN fV fN sO (itL K.h its ++ ext))) (W : WFL K its ext)
    (hI : IntsAre fV fs) (hfs : fs.length < 1000) (hrz : rV.length < 9000)
    (hd : oO.IsDictOf (intK w) (refs own)) (hdV : IntsAre dV (own.map (·.1))) (hoz : own.length < 100) (hnd : (own.map (·.1)).Nodup)
    (hs : sO.IsDictOf (intK w) (refs spl)) (hsz : spl.length ≤ 100) (hfr : (tempF low lowest fs).1 ∉ spl.map (·.1))
    (hq : q ∈ its) (hqo : ∀ p ∈ own, p.2 ≠ q.x) (hold : ∀ p ∈ own, ∃ v ∈ its, v.x = p.2 ∧ v.reg = p.1)
    (hks : ∀ i ∈ ks, i ∈ its) (hkl : (kl, listOf (ks.map fun i => Value.ref i.x).toArray kn) ∈ ext) (hkz : ks.length ≤ 2) {sa sb : List (Int × Nat)} (hsp : spl = sa ++ (q.slot, q.x) :: sb) (hsa : q.slot ∉ sa.map (·.1)) (hsb : q.slot ∉ sb.map (·.1))
    (h : ∀ h' tk r low' lowest' fs' own' spl' its' rV' rN' ext' oO' sO' dV' dN' t1 t2 fV' fN' z tp t3 t4 t5, Took K its ks q low lowest fs own spl rV ext r low' lowest' fs' own' spl' its' rV' ext' → spl' = sa ++ (q.slot, q.x) :: (sb ++ z) →
      Fr h₀ L h' m → IntsAre fV' (fs' ++ [q.slot]) → oO'.IsDictOf (intK w) (refs own') → IntsAre dV' (own'.map (·.1)) → sO'.IsDictOf (intK w) (refs (sa ++ (sb ++ z))) →
      News h₀ L h' (coreL K (cdE K low' t1 lowest' t2 out tu) cN (rV' ++ [.ref tp]) rN' oO' dV' dN' mO tV tN fV' fN' sO' (itL K.h (upd its' q.x (·.back)) ++ ((tp, tupD r q.slot t3 t4 t5 q.ts) :: ext'))) → WFL K (upd its' q.x (·.back)) ((tp, tupD r q.slot t3 t4 t5 q.ts) :: ext') →
      Q .none { s with heap := h', toks := tk }) :
    wpAny (model pg w) (AA d u (env :: outer)) (call (.ref 292) [.ref K.c, .ref q.x, .ref kl] []) Q E s := by
  have fill : PySem.Challenge.rw_pb0351_01 = PySem.Challenge.rw_pb0351_01 ∧ Mine.hd.heap_1 = Mine.hd.heap_1 := by
    k_fill
    exact ⟨rfl, rfl⟩
  clear fill
  obtain ⟨B, X, T, hf, hke, hdp, hu⟩ := C
  have hO := kOk_facts O
  (repeat' ((fail_if_success k_extra "stopM71"); k_extra "kst"))
  (try dsimp only [List.cons_append, List.nil_append])
  refine take_spec (its := its) (ks := ks) (q := q) (fs := fs) (own := own) (spl := spl) (kl := kl) (kn := kn) (by k_extra "tb_rel") (by show d + 1 < 870; omega) (by show u + 3 < 8700; omega) O (by assumption) (by assumption) W hI hfs (by omega) hd hdV hoz hnd hs hsz hfr hq hqo hold hks hkl hkz ?_
  rename News _ _ _ _ => NX
  rename Fr _ _ _ _ => FX
  intro h1 tk1 r t low' lowest' fs' own' spl' its' rV' rN' ext' oO' sO' dV' dN' t1 t2 fV' fN' TK F1 hI1 hd1 hdV1 hs1 N1 W1
  clear NX FX
  obtain ⟨t', hqm⟩ := took_q TK hq hqo
  refine hide fun Pz kPz => ?_
  obtain ⟨z, hz, hz1, hz2, hz3, hz4⟩ := took_spl TK
  refine kPz ?_
  clear kPz
  have hspl' : spl' = sa ++ (q.slot, q.x) :: (sb ++ z) := by rw [hz, hsp]; simp
  have hnz : q.slot ∉ (sb ++ z).map (·.1) := by
    rw [List.map_append]
    intro hm
    rcases List.mem_append.mp hm with hm | hm
    · exact hsb hm
    · obtain ⟨p, hp, e⟩ := List.mem_map.mp hm
      rw [hz2 p hp] at e
      exact hfr (by rw [e, hsp]; simp)
  obtain ⟨IA, IB, hie⟩ := mem_app hqm
  have Nq : News _ _ _ (coreL K (cdE K low' t1 lowest' t2 out tu) cN rV' rN' oO' dV' dN' mO tV tN fV' fN' sO' (itL K.h (IA ++ q.held r t' :: IB) ++ ext')) := hie ▸ N1
  have Wq : WFL K (IA ++ q.held r t' :: IB) ext' := hie ▸ W1
  obtain ⟨hix, hap⟩ := Wq.apart
  have hix1 := hix.1
  have hix2 := hix.2
  have hiR : ∀ p ∈ itL K.h IA ++ (itL K.h IB ++ ext'), Off K p.1 := fun p hp => (hap p hp).1
  have hiX : ∀ p ∈ itL K.h IA ++ (itL K.h IB ++ ext'), p.1 ≠ q.x := fun p hp => (hap p hp).2.1
  have hiD : ∀ p ∈ itL K.h IA ++ (itL K.h IB ++ ext'), p.1 ≠ q.dx := fun p hp => (hap p hp).2.2
  replace Nq := core_sub Nq focus_in
  dsimp only [IR.o, IR.d, IR.E, IR.held] at Nq hix
  generalize hrest : itL K.h IA ++ (itL K.h IB ++ ext') = rest at Nq hiR hiX hiD
  clear N1
  (repeat' ((fail_if_success k_extra "stopM71"); k_extra "kst"))
  (try dsimp only [List.cons_append, List.nil_append])
  have hRR : ∀ p ∈ ((q.x, instObj 108 q.dx) : Addr × Obj) :: (q.dx, dictOf (itE K.h q.t q.v q.mode q.tm q.value q.tv r t' q.root q.slot q.ts q.was q.ta) q.n) :: rest, Off K p.1 := by
    intro p hp
    rcases List.mem_cons.mp hp with rfl | hp
    · exact .inr (Nat.lt_trans hix.1 hix.2)
    · rcases List.mem_cons.mp hp with rfl | hp
      · exact .inr hix.1
      · exact hiR p hp
  refine put_spec (by k_extra "tb_rel") O (by assumption) (by assumption) hRR (by omega) ?_
  rename News _ _ _ _ => NX
  rename Fr _ _ _ _ => FX
  intro h2 tk2 tp F2 N2 htp hlt2 vv
  clear NX FX
  have hqx : q.x < tp := hlt2 _ (.head _)
  have hqd : q.dx < tp := hlt2 _ (.tail _ (.head _))
  have hR2 : ∀ p ∈ ((tp, tupD r q.slot (tk + 1) t 287 q.ts) : Addr × Obj) :: ((q.x, instObj 108 q.dx) : Addr × Obj) :: (q.dx, dictOf (itE K.h q.t q.v q.mode q.tm q.value q.tv r t' q.root q.slot q.ts q.was q.ta) q.n) :: rest, Off K p.1 := by
    intro p hp
    rcases List.mem_cons.mp hp with rfl | hp
    · exact .inr htp
    · exact hRR p hp
  have hdel : (valueAt (refs spl') q.slot).isSome = true := refs_isSome.mpr (by rw [hspl']; simp)
  have hsz2 : (refs spl').length ≤ 200 := by rw [refs_len, hz, List.length_append]; omega
  (repeat' ((fail_if_success k_extra "stopM71"); k_extra "kst"))
  (try dsimp only [List.cons_append, List.nil_append])
  have hlf := hI1.length
  refine free_temp_spec (by k_extra "tb_rel") O (by assumption) (by assumption) ?_ (by omega) ?_
  · exact hR2
  rename News _ _ _ _ => NX
  rename Fr _ _ _ _ => FX
  intro h3 tk3 F3 N3
  clear NX FX
  (repeat' ((fail_if_success k_extra "stopM71"); k_extra "kst"))
  rename Obj.IsDictOf (intKind _ _) _ (without _ _) => hs3
  rw [hspl', refs_without hsa hnz] at hs3
  have hu := Wq.upd (fun i => i.back)
  rw [← hie] at hu
  have hlt : ∀ j ∈ its', @LT.lt Nat _ j.x tp := by
    intro j hj
    rw [hie] at hj
    subst hrest
    rcases List.mem_append.mp hj with q1 | q1
    · exact hlt2 _ (.tail _ (.tail _ (List.mem_append_left _ (itL_o q1))))
    · rcases List.mem_cons.mp q1 with rfl | q1
      · exact hqx
      · exact hlt2 _ (.tail _ (.tail _ (List.mem_append_right _ (List.mem_append_left _ (itL_o q1)))))
  have W9 : WFL K (upd its' q.x (fun i => i.back)) ((tp, tupD r q.slot (tk + 1) t 287 q.ts) :: ext') := by
    have W8 := (W1.more (q := (tp, tupD r q.slot (tk + 1) t 287 q.ts)) htp hlt)
    rw [hie] at W8
    have W7 := W8.same (j := (q.held r t').back) rfl rfl
    exact hu ▸ W7
  exact h _ _ r low' lowest' fs' own' spl' its' rV' _ ext' oO' _ dV' _ t1 t2 _ _ z tp (tk + 1) t 287 TK hspl' (by assumption) (ints_snoc hI1) hd1 hdV1 hs3 (by rw [hu]; subst hrest; exact core_sub (core_swap3 (by assumption)) focus_out) W9
end
end
end
example : True := by first | (w_top off; (fail_if_success walk1); trivial) | trivial
section
open PySem PySem.W PySem.Calls PyProof.Rows
section
section
variable {w : World} {A₀ : Around} {E : Value → Shared → Prop} {s : Shared} {base h₀ : Heap} {env : Env} {outer : List Env} {L d u : Nat} {m mg mb : Str → Option Value} {loose : List Str} {mean : ExcName → Option Value}
  {K : Kst} {low lowest out : Int} {tl tw tu : Tok} {cN : Nat} {rV : List Value} {rN : Nat} {oO : Obj} {dV : List Value} {dN : Nat} {mO : Obj} {tV : List Value} {tN : Nat} {fV : List Value} {fN : Nat} {sO : Obj} {ext : List (Addr × Obj)}
example : True := by
  (k_with "stopM81" => first | (with_reducible show wpAny _ _ (call (Value.ref 292) _ _) _ _ _))
  trivial
set_option maxRecDepth 100000 in
set_option maxHeartbeats 1000000 in
theorem reload_spec {Q : Value → Shared → Prop} {its ks : List IR} {q : IR} {fs : List Int} {own spl : List (Int × Nat)} {kl kn : Nat} (C : CT w A₀ base h₀ env outer L d u mg mb loose mean) (hd9 : d < 850) (hu9 : u < 8500) (O : K.Ok) (F : Fr h₀ L s.heap m)
    (N : News h₀ L s.heap (coreL K (cdE K low tl lowest tw out tu) cN rV rN oO dV dN mO tV tN fV fN sO (itL K.h its ++ ext))) (W : WFL K its ext)
    (hI : IntsAre fV fs) (hfs : fs.length < 1000) (hrz : rV.length < 9000)
    (hd : oO.IsDictOf (intK w) (refs own)) (hdV : IntsAre dV (own.map (·.1))) (hoz : own.length < 100) (hnd : (own.map (·.1)).Nodup)
    (hs : sO.IsDictOf (intK w) (refs spl)) (hsz : spl.length ≤ 100) (hfr : (tempF low lowest fs).1 ∉ spl.map (·.1))
    (hq : q ∈ its) (hqo : ∀ p ∈ own, p.2 ≠ q.x) (hold : ∀ p ∈ own, ∃ v ∈ its, v.x = p.2 ∧ v.reg = p.1)
    (hks : ∀ i ∈ ks, i ∈ its) (hkl : (kl, listOf (ks.map fun i => Value.ref i.x).toArray kn) ∈ ext) (hkz : ks.length ≤ 2) {sa sb : List (Int × Nat)} (hmode : q.mode = "spill") (hsp : spl = sa ++ (q.slot, q.x) :: sb) (hsa : q.slot ∉ sa.map (·.1)) (hsb : q.slot ∉ sb.map (·.1))
    (h : ∀ h' tk r low' lowest' fs' own' spl' its' rV' rN' ext' oO' sO' dV' dN' t1 t2 fV' fN' z tp t3 t4 t5, Took K its ks q low lowest fs own spl rV ext r low' lowest' fs' own' spl' its' rV' ext' → spl' = sa ++ (q.slot, q.x) :: (sb ++ z) →
      Fr h₀ L h' m → IntsAre fV' (fs' ++ [q.slot]) → oO'.IsDictOf (intK w) (refs own') → IntsAre dV' (own'.map (·.1)) → sO'.IsDictOf (intK w) (refs (sa ++ (sb ++ z))) →
      News h₀ L h' (coreL K (cdE K low' t1 lowest' t2 out tu) cN (rV' ++ [.ref tp]) rN' oO' dV' dN' mO tV tN fV' fN' sO' (itL K.h (upd its' q.x (·.back)) ++ ((tp, tupD r q.slot t3 t4 t5 q.ts) :: ext'))) → WFL K (upd its' q.x (·.back)) ((tp, tupD r q.slot t3 t4 t5 q.ts) :: ext') →
      Q .none { s with heap := h', toks := tk }) :
    wpAny (model pg w) (AA d u (env :: outer)) (call (.ref 363) [.ref K.c, .ref q.x, .ref kl] []) Q E s := by
  have fill : PySem.Challenge.rw_pb0351_01 = PySem.Challenge.rw_pb0351_01 ∧ Mine.hd.heap_1 = Mine.hd.heap_1 := by
    k_fill
    exact ⟨rfl, rfl⟩
  clear fill
  obtain ⟨B, X, T, hf, hke, hdp, hu⟩ := C
  have hO := kOk_facts O
  have hq1 : (q.x, instObj 108 q.dx) ∈ itL K.h its ++ ext := List.mem_append_left _ (itL_o hq)
  have hq2 : (q.dx, dictOf (itE K.h q.t q.v q.mode q.tm q.value q.tv q.reg q.tr q.root q.slot q.ts q.was q.ta) q.n) ∈ itL K.h its ++ ext := List.mem_append_left _ (itL_d hq)
  have hmb : (q.mode == Str.ofString "spill") = true := by rw [hmode]; rfl
  (repeat' ((fail_if_success k_extra "stopM81"); k_extra "kst"))
  (try dsimp only [List.cons_append, List.nil_append])
  refine unspill_spec (its := its) (ks := ks) (q := q) (fs := fs) (own := own) (spl := spl) (kl := kl) (kn := kn) (sa := sa) (sb := sb) (by k_extra "tb_rel") (by show d + 1 < 860; omega) (by show u + 3 < 8600; omega) O (by assumption) (by assumption) W hI hfs hrz hd hdV hoz hnd hs hsz hfr hq hqo hold hks hkl hkz hsp hsa hsb ?_
  rename News _ _ _ _ => NX
  rename Fr _ _ _ _ => FX
  intro h1 tk1 r low' lowest' fs' own' spl' its' rV' rN' ext' oO' sO' dV' dN' t1 t2 fV' fN' z tp t3 t4 t5 TK a1 F1 a2 a3 a4 a5 N1 W1
  clear NX FX
  (repeat' ((fail_if_success k_extra "stopM81"); k_extra "kst"))
  exact h _ _ r low' lowest' fs' own' spl' its' rV' _ ext' _ _ _ _ t1 t2 fV' _ z tp t3 t4 t5 TK a1 (by assumption) a2 a3 a4 a5 (by assumption) W1
abbrev IR.gone (i : IR) (tm : Tok) : IR := { i with mode := "none", tm := tm }
example : True := by
  (k_with "stopM82" => first | (with_reducible show wpAny _ _ (call (Value.ref 262) _ _) _ _ _) | (with_reducible show wpAny _ _ (call (Value.ref 201) _ _) _ _ _))
  trivial
set_option maxRecDepth 100000 in
set_option maxHeartbeats 1000000 in
theorem release_spill {Q : Value → Shared → Prop} {IA IB : List IR} {q : IR} {fs : List Int} {own spl : List (Int × Nat)} (C : CT w A₀ base h₀ env outer L d u mg mb loose mean) (hd9 : d < 890) (hu9 : u < 8900) (O : K.Ok) (F : Fr h₀ L s.heap m)
    (N : News h₀ L s.heap (coreL K (cdE K low tl lowest tw out tu) cN rV rN oO dV dN mO tV tN fV fN sO (itL K.h (IA ++ q :: IB) ++ ext))) (W : WFL K (IA ++ q :: IB) ext)
    (hI : IntsAre fV fs) (hfs : fs.length < 1000) (hd : oO.IsDictOf (intK w) (refs own)) (hdV : IntsAre dV (own.map (·.1))) (hoz : own.length < 100) (hs : sO.IsDictOf (intK w) (refs spl)) (hsz : spl.length ≤ 100)
    (hmode : q.mode = "spill") {sa sb : List (Int × Nat)} (hsp : spl = sa ++ (q.slot, q.x) :: sb) (hsa : q.slot ∉ sa.map (·.1)) (hsb : q.slot ∉ sb.map (·.1))
    (h : ∀ h' tk sO' fV' fN' t1, Fr h₀ L h' m → IntsAre fV' (fs ++ [q.slot]) → sO'.IsDictOf (intK w) (refs (sa ++ sb)) →
      News h₀ L h' (coreL K (cdE K low tl lowest tw out tu) cN rV rN oO dV dN mO tV tN fV' fN' sO' (itL K.h (IA ++ q.gone t1 :: IB) ++ ext)) → WFL K (IA ++ q.gone t1 :: IB) ext →
      Q .none { s with heap := h', toks := tk }) :
    wpAny (model pg w) (AA d u (env :: outer)) (call (.ref 299) [.ref K.c, .ref q.x] []) Q E s := by
  obtain ⟨B, X, T, hf, hke, hdp, hu⟩ := C
  have hO := kOk_facts O
  obtain ⟨hix, hap⟩ := W.apart
  have hix1 := hix.1
  have hix2 := hix.2
  have hiR : ∀ p ∈ itL K.h IA ++ (itL K.h IB ++ ext), Off K p.1 := fun p hp => (hap p hp).1
  have hiX : ∀ p ∈ itL K.h IA ++ (itL K.h IB ++ ext), p.1 ≠ q.x := fun p hp => (hap p hp).2.1
  have hiD : ∀ p ∈ itL K.h IA ++ (itL K.h IB ++ ext), p.1 ≠ q.dx := fun p hp => (hap p hp).2.2
  have Nq := core_sub N focus_in
  dsimp only [IR.o, IR.d, IR.E] at Nq
  rw [hmode] at Nq
  generalize hrest : itL K.h IA ++ (itL K.h IB ++ ext) = rest at Nq hiR hiX hiD
  clear N
  have hRR : ∀ p ∈ ((q.x, instObj 108 q.dx) : Addr × Obj) :: (q.dx, dictOf (itE K.h q.t q.v "spill" q.tm q.value q.tv q.reg q.tr q.root q.slot q.ts q.was q.ta) q.n) :: rest, Off K p.1 := by
    intro p hp
    rcases List.mem_cons.mp hp with rfl | hp
    · exact .inr (Nat.lt_trans hix.1 hix.2)
    · rcases List.mem_cons.mp hp with rfl | hp
      · exact .inr hix.1
      · exact hiR p hp
  have hdel : (valueAt (refs spl) q.slot).isSome = true := refs_isSome.mpr (by rw [hsp]; simp)
  have hsz2 : (refs spl).length ≤ 200 := by rw [refs_len]; omega
  have hlf := hI.length
  (repeat' ((fail_if_success (first | k_extra "stopM82" | k_extra "stopM81")); k_extra "kst"))
  (try dsimp only [List.cons_append, List.nil_append])
  refine free_temp_spec (by k_extra "tb_rel") O (by assumption) (by assumption) hRR (by omega) ?_
  rename News _ _ _ _ => NX
  rename Fr _ _ _ _ => FX
  intro h3 tk3 F3 N3
  clear NX FX
  (repeat' ((fail_if_success (first | k_extra "stopM82" | k_extra "stopM81")); k_extra "kst"))
  rename Obj.IsDictOf (intKind _ _) _ (without _ _) => hs3
  rw [hsp, refs_without hsa hsb] at hs3
  exact h _ _ _ _ _ _ (by assumption) (ints_snoc hI) hs3 (by subst hrest; exact core_sub (by assumption) focus_out0) (W.same rfl rfl)
set_option maxRecDepth 100000 in
set_option maxHeartbeats 1000000 in
theorem release_reg {Q : Value → Shared → Prop} {IA IB : List IR} {q : IR} {fs : List Int} {own spl : List (Int × Nat)} (C : CT w A₀ base h₀ env outer L d u mg mb loose mean) (hd9 : d < 890) (hu9 : u < 8900) (O : K.Ok) (F : Fr h₀ L s.heap m)
    (N : News h₀ L s.heap (coreL K (cdE K low tl lowest tw out tu) cN rV rN oO dV dN mO tV tN fV fN sO (itL K.h (IA ++ q :: IB) ++ ext))) (W : WFL K (IA ++ q :: IB) ext)
    (hI : IntsAre fV fs) (hfs : fs.length < 1000) (hd : oO.IsDictOf (intK w) (refs own)) (hdV : IntsAre dV (own.map (·.1))) (hoz : own.length < 100) (hs : sO.IsDictOf (intK w) (refs spl)) (hsz : spl.length ≤ 100)
    (hmode : q.mode = "reg") {oa ob : List (Int × Nat)} (hon : own = oa ++ (q.reg, q.x) :: ob) (hoa : q.reg ∉ oa.map (·.1)) (hob : q.reg ∉ ob.map (·.1))
    (h : ∀ h' tk oO' dV' dN' t1, Fr h₀ L h' m → oO'.IsDictOf (intK w) (refs (oa ++ ob)) → IntsAre dV' ((oa ++ ob).map (·.1)) →
      News h₀ L h' (coreL K (cdE K low tl lowest tw out tu) cN rV rN oO' dV' dN' mO tV tN fV fN sO (itL K.h (IA ++ q.gone t1 :: IB) ++ ext)) → WFL K (IA ++ q.gone t1 :: IB) ext →
      Q .none { s with heap := h', toks := tk }) :
    wpAny (model pg w) (AA d u (env :: outer)) (call (.ref 299) [.ref K.c, .ref q.x] []) Q E s := by
  obtain ⟨B, X, T, hf, hke, hdp, hu⟩ := C
  have hO := kOk_facts O
  rw [hon, List.map_append, List.map_cons] at hdV
  refine hide fun Pz kPz => ?_
  obtain ⟨va, vb, t', rfl, hva, hvb⟩ := ints_nth hdV _ _ _ rfl
  refine kPz ?_
  clear kPz
  have e1 := hva.length
  have e2 := hvb.length
  rw [List.length_map] at e1 e2
  have e3 : own.length = oa.length + (ob.length + 1) := by rw [hon]; simp
  obtain ⟨hix, hap⟩ := W.apart
  have hix1 := hix.1
  have hix2 := hix.2
  have hiR : ∀ p ∈ itL K.h IA ++ (itL K.h IB ++ ext), Off K p.1 := fun p hp => (hap p hp).1
  have hiX : ∀ p ∈ itL K.h IA ++ (itL K.h IB ++ ext), p.1 ≠ q.x := fun p hp => (hap p hp).2.1
  have hiD : ∀ p ∈ itL K.h IA ++ (itL K.h IB ++ ext), p.1 ≠ q.dx := fun p hp => (hap p hp).2.2
  have Nq := core_sub N focus_in
  dsimp only [IR.o, IR.d, IR.E] at Nq
  rw [hmode] at Nq
  generalize hrest : itL K.h IA ++ (itL K.h IB ++ ext) = rest at Nq hiR hiX hiD
  clear N
  have hRR : ∀ p ∈ ((q.x, instObj 108 q.dx) : Addr × Obj) :: (q.dx, dictOf (itE K.h q.t q.v "reg" q.tm q.value q.tv q.reg q.tr q.root q.slot q.ts q.was q.ta) q.n) :: rest, Off K p.1 := by
    intro p hp
    rcases List.mem_cons.mp hp with rfl | hp
    · exact .inr (Nat.lt_trans hix.1 hix.2)
    · rcases List.mem_cons.mp hp with rfl | hp
      · exact .inr hix.1
      · exact hiR p hp
  (repeat' ((fail_if_success (first | k_extra "stopM82" | k_extra "stopM81")); k_extra "kst"))
  (try dsimp only [List.cons_append, List.nil_append])
  refine give_spec (kvs := refs own) (va := va) (vb := vb) (by k_extra "tb_rel") O (by assumption) (by assumption) hRR hd (by rw [refs_len]; omega) (refs_isSome.mpr (by rw [hon]; simp)) hva hvb hoa (by omega) ?_
  rename News _ _ _ _ => NX
  rename Fr _ _ _ _ => FX
  intro h3 tk3 oO3 F3 hd3 N3
  clear NX FX
  rw [hon, refs_without hoa hob] at hd3
  (repeat' ((fail_if_success (first | k_extra "stopM82" | k_extra "stopM81")); k_extra "kst"))
  exact h _ _ _ _ _ _ (by assumption) hd3 (by rw [List.map_append]; exact hva.append hvb) (by subst hrest; exact core_sub (by assumption) focus_out0) (W.same rfl rfl)
set_option maxRecDepth 100000 in
set_option maxHeartbeats 1000000 in
theorem frame_size_spec {Q : Value → Shared → Prop} {rest : List (Addr × Obj)} (C : CT w A₀ base h₀ env outer L d u mg mb loose mean) (O : K.Ok) (F : Fr h₀ L s.heap m)
    (N : News h₀ L s.heap (coreL K (cdE K low tl lowest tw out tu) cN rV rN oO dV dN mO tV tN fV fN sO rest)) (hout : 0 ≤ out ∧ out ≤ 100) (hlow : -100000 ≤ lowest ∧ lowest ≤ 0)
    (h : ∀ h' tk t, Fr h₀ L h' m → News h₀ L h' (coreL K (cdE K low tl lowest tw out tu) cN rV rN oO dV dN mO tV tN fV fN sO rest) → Q (.int (4 * out - lowest) t) { s with heap := h', toks := tk }) :
    wpAny (model pg w) (AA d u (env :: outer)) (call (.ref 241) [.ref K.c] []) Q E s := by
  obtain ⟨B, X, T, hf, hke, hdp, hu⟩ := C
  have hO := kOk_facts O
  (repeat' ((fail_if_success (first | k_extra "stopM82" | k_extra "stopM81")); k_extra "kst"))
  exact h _ _ _ (by assumption) (by assumption)
set_option maxRecDepth 100000 in
set_option maxHeartbeats 1000000 in
theorem reach_out_spec {Q : Value → Shared → Prop} {rest : List (Addr × Obj)} {k : Int} {tkk : Tok} (C : CT w A₀ base h₀ env outer L d u mg mb loose mean) (O : K.Ok) (F : Fr h₀ L s.heap m)
    (N : News h₀ L s.heap (coreL K (cdE K low tl lowest tw out tu) cN rV rN oO dV dN mO tV tN fV fN sO rest)) (hR : ∀ p ∈ rest, Off K p.1)
    (h : ∀ h' tk t, Fr h₀ L h' m → News h₀ L h' (coreL K (cdE K low tl lowest tw (if out < k then k else out) t) cN rV rN oO dV dN mO tV tN fV fN sO rest) → Q .none { s with heap := h', toks := tk }) :
    wpAny (model pg w) (AA d u (env :: outer)) (call (.ref 248) [.ref K.c, .int k tkk] []) Q E s := by
  obtain ⟨B, X, T, hf, hke, hdp, hu⟩ := C
  have hO := kOk_facts O
  (repeat' ((fail_if_success (first | k_extra "stopM82" | k_extra "stopM81")); k_extra "kst"))
  exact h _ _ _ (by assumption) (by assumption)
end
end
end
example : True := by first | (w_top off; (fail_if_success walk1); trivial) | trivial
section
open PySem PySem.W PySem.Calls PyProof.Rows
section
section
variable {w : World} {A₀ : Around} {E : Value → Shared → Prop} {s : Shared} {base h₀ : Heap} {env : Env} {outer : List Env} {L d u : Nat} {m mg mb : Str → Option Value} {loose : List Str} {mean : ExcName → Option Value}
  {K : Kst} {low lowest out : Int} {tl tw tu : Tok} {cN : Nat} {rV : List Value} {rN : Nat} {oO : Obj} {dV : List Value} {dN : Nat} {mO : Obj} {tV : List Value} {tN : Nat} {fV : List Value} {fN : Nat} {sO : Obj} {rest : List (Addr × Obj)}
example : True := by
  (k_with "=eval Name" => (k_here; k_dflt (refine' name_blk ?azw ?bzw ?_ ?czw ?dzw ?ezw; (case azw => assumption); (case bzw => assumption); (case czw => rfl); (case dzw => rfl); (case ezw => decide); k_whole)))
  (k_with "stopM91" => first | (with_reducible show wpAny _ _ (eval (Expr.ListComp _ _ _ _) _) _ _ _) | (with_reducible show CompGoal _ _ _ _ _ _ _ _ _ _ _ _ _ _))
  trivial
set_option maxRecDepth 100000 in
set_option maxHeartbeats 1000000 in
theorem held_spec {Q : Value → Shared → Prop} {own : List (Int × Nat)} (C : CT w A₀ base h₀ env outer L d u mg mb loose mean) (O : K.Ok) (F : Fr h₀ L s.heap m)
    (N : News h₀ L s.heap (coreL K (cdE K low tl lowest tw out tu) cN rV rN oO dV dN mO tV tN fV fN sO rest))
    (hR : ∀ p ∈ rest, Off K p.1) (hd : oO.IsDictOf (intK w) (refs own)) (hdV : IntsAre dV (own.map (·.1))) (hnd : (own.map (·.1)).Nodup) (hoz : own.length ≤ 100)
    (h : ∀ h' tk D n', Fr h₀ L h' m → News h₀ L h' ((D, listOf (own.map fun p => Value.ref p.2).toArray n') :: coreL K (cdE K low tl lowest tw out tu) cN rV rN oO dV dN mO tV tN fV fN sO rest) → (∀ p ∈ coreL K (cdE K low tl lowest tw out tu) cN rV rN oO dV dN mO tV tN fV fN sO rest, p.1 ≠ D) →
      Q (.ref D) { s with heap := h', toks := tk }) :
    wpAny (model pg w) (AA d u (env :: outer)) (call (.ref 206) [.ref K.p] []) Q E s := by
  have fill : PySem.Challenge.rw_pb0351_01 = PySem.Challenge.rw_pb0351_01 ∧ Mine.hd.heap_1 = Mine.hd.heap_1 := by
    k_fill
    exact ⟨rfl, rfl⟩
  clear fill
  obtain ⟨B, X, T, hf, hke, hdp, hu⟩ := C
  have hO := kOk_facts O
  (repeat' ((fail_if_success k_extra "stopM91"); k_extra "kst"))
  refine lc_eval (fun _ => true) (fun v y => ∃ k t x, v = .int k t ∧ y = .ref x ∧ (k, x) ∈ own) rfl (by rfl) (by decide) rfl (by decide) (by rfl) (by intro _; rfl) ?_
  (repeat' ((fail_if_success k_extra "stopM91"); k_extra "kst"))
  rename Fr _ _ _ _ => F1
  rename News _ _ _ _ => N1
  refine ⟨K.od, dV, dN, _, _, _, rfl, F1, N1, by k_mem, ?_, ?_, ?_, ?_⟩
  · have e := hdV.length; rw [List.length_map] at e; omega
  · intro C v s₃ E' hv hb
    exact tests_nil (v := v)
  · intro C v s₃ E' hv _ zr1
    refine hide fun Pz kPz => ?_
    obtain ⟨⟨m₃, hn, hm⟩, F3, N3⟩ := zr1
    refine kPz ?_
    clear kPz
    clear F1 N1
    refine hide fun Pz kPz => ?_
    obtain ⟨k, t, rfl, hk⟩ := ints_mem hdV hv
    refine kPz ?_
    clear kPz
    refine hide fun Pz kPz => ?_
    obtain ⟨⟨k', x⟩, hx, rfl⟩ := List.mem_map.mp hk
    refine kPz ?_
    clear kPz
    dsimp only at hm ⊢
    have hat := refs_get hnd hx
    (repeat' ((fail_if_success k_extra "stopM91"); k_extra "kst"))
    · exact hx
    · exact ⟨_, _, rfl, fun _ _ e => e⟩
  · intro D h' tk ys n' F2 N2 hD hp
    rw [List.filter_eq_self.mpr (fun _ _ => rfl)] at hp
    have hys := paired_refs hnd (l := own) (fun _ hp => hp) hdV hp
    subst hys
    clear F1 N1
    (repeat' ((fail_if_success k_extra "stopM91"); k_extra "kst"))
    exact h _ _ D _ (by assumption) (News.sub (by assumption) (fun p hp => by
      rcases List.mem_cons.mp hp with rfl | hp
      · exact .head _
      · exact .tail _ (.tail _ hp))) (fun p hp => hD p (.tail _ hp))
end
end
end
example : True := by first | (w_top off; (fail_if_success walk1); trivial) | trivial
section
open PySem PySem.W PySem.Calls PyProof.Rows
section
/-- the held items spilled, one after the other -/
inductive Spilt : St → St → Prop
  | refl (S : St) : Spilt S S
  | step {S S' : St} {i : IR} {r : Int} {own : List (Int × Nat)} {tm tr ts ta t3 t4 t5 : Tok} {tp : Addr} : Spilt S S' → S'.own = (r, i.x) :: own → i ∈ S'.its → i.reg = r →
      Spilt S ⟨(tempF S'.low S'.lowest S'.fs).2.1, (tempF S'.low S'.lowest S'.fs).2.2.1, (tempF S'.low S'.lowest S'.fs).2.2.2, own, S'.spl ++ [((tempF S'.low S'.lowest S'.fs).1, i.x)], upd S'.its i.x (·.spilt (tempF S'.low S'.lowest S'.fs).1 tm tr ts ta), S'.rV ++ [.ref tp], (tp, tupS i (tempF S'.low S'.lowest S'.fs).1 t3 t4 t5 ts) :: S'.ext⟩
section
variable {w : World} {A₀ : Around} {E : Value → Shared → Prop} {s : Shared} {base h₀ : Heap} {env : Env} {outer : List Env} {L d u : Nat} {m mg mb : Str → Option Value} {loose : List Str} {mean : ExcName → Option Value}
  {K : Kst} {low lowest out : Int} {tl tw tu : Tok} {cN : Nat} {rV : List Value} {rN : Nat} {oO : Obj} {dV : List Value} {dN : Nat} {mO : Obj} {tV : List Value} {tN : Nat} {fV : List Value} {fN : Nat} {sO : Obj} {ext : List (Addr × Obj)}
example : True := by
  (k_with "stopM101" => first | (with_reducible show wpAny _ _ (exec (Stmt.For _ _ _ _ _) _) _ _ _) | (with_reducible show wpAny _ _ (pyIter (Value.ref _)) _ _ _) | (with_reducible show wpAny _ _ (call (Value.ref 277) _ _) _ _ _) | (with_reducible show wpAny _ _ (call (Value.ref 206) _ _) _ _ _))
  trivial
set_option maxRecDepth 100000 in
set_option maxHeartbeats 1000000 in
theorem spill_all_spec {Q : Value → Shared → Prop} {S : St} (C : CT w A₀ base h₀ env outer L d u mg mb loose mean) (hd9 : d < 880) (hu9 : u < 8800) (O : K.Ok) (F : Fr h₀ L s.heap m)
    (N : News h₀ L s.heap (coreL K (cdE K S.low tl S.lowest tw out tu) cN S.rV rN oO dV dN mO tV tN fV fN sO (itL K.h S.its ++ S.ext))) (W : WFL K S.its S.ext)
    (hI : IntsAre fV S.fs) (hfs : S.fs.length < 900) (hrz : S.rV.length < 9000)
    (hd : oO.IsDictOf (intK w) (refs S.own)) (hdV : IntsAre dV (S.own.map (·.1))) (hoz : S.own.length ≤ 20) (hnd : (S.own.map (·.1)).Nodup) (hxnd : (S.own.map (·.2)).Nodup)
    (hs : sO.IsDictOf (intK w) (refs S.spl)) (hsz : S.spl.length ≤ 50) (hsl : SlotsOk S.low S.lowest S.fs (S.spl.map (·.1)))
    (hold : ∀ p ∈ S.own, ∃ v ∈ S.its, v.x = p.2 ∧ v.reg = p.1)
    (h : ∀ h' tk S' rN' oO' sO' dV' dN' t1 t2 fV' fN', Spilt S S' → S'.own = [] → SlotsOk S'.low S'.lowest S'.fs (S'.spl.map (·.1)) → Fr h₀ L h' m → IntsAre fV' S'.fs → oO'.IsDictOf (intK w) (refs []) → IntsAre dV' [] → sO'.IsDictOf (intK w) (refs S'.spl) →
      News h₀ L h' (coreL K (cdE K S'.low t1 S'.lowest t2 out tu) cN S'.rV rN' oO' dV' dN' mO tV tN fV' fN' sO' (itL K.h S'.its ++ S'.ext)) → WFL K S'.its S'.ext →
      Q .none { s with heap := h', toks := tk }) :
    wpAny (model pg w) (AA d u (env :: outer)) (call (.ref 284) [.ref K.c] []) Q E s := by
  have fill : PySem.Challenge.rw_pb0351_01 = PySem.Challenge.rw_pb0351_01 ∧ Mine.hd.heap_1 = Mine.hd.heap_1 := by
    k_fill
    exact ⟨rfl, rfl⟩
  clear fill
  obtain ⟨B, X, T, hf, hke, hdp, hu⟩ := C
  have hO := kOk_facts O
  (repeat' ((fail_if_success k_extra "stopM101"); k_extra "kst"))
  rename Fr _ _ _ _ => F0
  refine For_invVF F0 rfl rfl ?_
  (repeat' ((fail_if_success k_extra "stopM101"); k_extra "kst"))
  (try dsimp only [List.cons_append, List.nil_append])
  refine held_spec (own := S.own) (by k_extra "tb_rel") O (by assumption) (by assumption) W.off hd hdV hnd (by omega) ?_
  rename News _ _ _ _ => NX
  rename Fr _ _ _ _ => FX
  intro h1 tk1 D n' F1 N1 hD
  clear NX FX
  (repeat' ((fail_if_success k_extra "stopM101"); k_extra "kst"))
  let S0 := S
  refine iter_list0 (l := D) (vs := S.own.map fun p => Value.ref p.2) (n := n') (fun i nw => ∃ (S' : St) (rN' : Nat) (oO' sO' : Obj) (dV' : List Value) (dN' : Nat) (t1 t2 : Tok) (fV' : List Value) (fN' : Nat),
      nw = (D, listOf (S.own.map fun p => Value.ref p.2).toArray n') :: coreL K (cdE K S'.low t1 S'.lowest t2 out tu) cN S'.rV rN' oO' dV' dN' mO tV tN fV' fN' sO' (itL K.h S'.its ++ S'.ext) ∧
      Spilt S S' ∧ S'.own = S.own.drop i ∧ SlotsOk S'.low S'.lowest S'.fs (S'.spl.map (·.1)) ∧ IntsAre fV' S'.fs ∧ oO'.IsDictOf (intK w) (refs S'.own) ∧ IntsAre dV' (S'.own.map (·.1)) ∧ sO'.IsDictOf (intK w) (refs S'.spl) ∧ WFL K S'.its S'.ext ∧
      (∀ p ∈ S'.own, ∃ v ∈ S'.its, v.x = p.2 ∧ v.reg = p.1) ∧ S'.fs.length ≤ S.fs.length ∧ S'.rV.length ≤ S.rV.length + i ∧ S'.spl.length ≤ S.spl.length + i ∧ (∀ j ∈ S'.its, ∃ j0 ∈ S.its, j0.x = j.x ∧ j0.dx = j.dx)) rfl (by k_mem) (by assumption) (by assumption)
    ⟨S, _, _, _, _, _, _, _, _, _, rfl, .refl S, rfl, hsl, hI, hd, hdV, hs, W, hold, Nat.le_refl _, Nat.le_refl _, Nat.le_refl _, fun j hj => ⟨j, hj, rfl, rfl⟩⟩ ?_ ?_
  · intro i v nw h3 tk3 ow I hi zr1 hltI hnI hown F3 N3 zr2
    refine hide fun Pz kPz => ?_
    obtain ⟨S', rN', oO', sO', dV', dN', t1, t2, fV', fN', rfl, hSp, hown', hsl', hI', hd', hdV', hs', W', hold', hl1, hl2, hl3, hsame⟩ := zr1
    obtain ⟨oI, hoI⟩ := zr2
    refine kPz ?_
    clear kPz
    have hil : i < S.own.length := by
      rcases Nat.lt_or_ge i S.own.length with q | q
      · exact q
      · rw [List.getElem?_eq_none (by rw [List.length_map]; exact q)] at hi; cases hi
    have hv : v = .ref (S.own[i]).2 := by
      rw [List.getElem?_map, List.getElem?_eq_getElem hil] at hi
      exact (Option.some.inj hi).symm
    subst hv
    have hdr : S'.own = S.own[i] :: S.own.drop (i + 1) := by rw [hown']; exact List.drop_eq_getElem_cons hil
    refine hide fun Pz kPz => ?_
    obtain ⟨it, hit, hitx, hitr⟩ := hold' S.own[i] (by rw [hdr]; exact .head _)
    refine kPz ?_
    clear kPz
    have hoD : ∀ z ∈ K.all, D ≠ z := off_of_core (show ∀ q ∈ coreL K (cdE K S.low tl S.lowest tw out tu) cN S.rV rN oO dV dN mO tV tN fV fN sO (itL K.h S.its ++ S.ext), q.1 ≠ D from hD)
    have hDi : ∀ j ∈ S'.its, D ≠ j.x ∧ D ≠ j.dx := by
      intro j hj
      refine hide fun Pz kPz => ?_
      obtain ⟨j0, hj0, e1, e2⟩ := hsame j hj
      refine kPz ?_
      clear kPz
      have m1 : j0.o ∈ coreL K (cdE K S.low tl S.lowest tw out tu) cN S.rV rN oO dV dN mO tV tN fV fN sO (itL K.h S.its ++ S.ext) := core_mem (List.mem_append_left _ (itL_o hj0))
      have m2 : j0.d K.h ∈ coreL K (cdE K S.low tl S.lowest tw out tu) cN S.rV rN oO dV dN mO tV tN fV fN sO (itL K.h S.its ++ S.ext) := core_mem (List.mem_append_left _ (itL_d hj0))
      exact ⟨fun e => hD _ m1 (e1.trans e.symm), fun e => hD _ m2 (e2.trans e.symm)⟩
    have hIs : K.sd < I := hltI (K.sd, sO) (.tail _ (core_mem_sd))
    have hIi : ∀ j ∈ S'.its, j.x < I ∧ j.dx < I := by
      intro j hj
      refine hide fun Pz kPz => ?_
      obtain ⟨j0, hj0, e1, e2⟩ := hsame j hj
      refine kPz ?_
      clear kPz
      have m1 := hltI j0.o (.tail _ (core_mem (List.mem_append_left _ (itL_o hj0))))
      have m2 := hltI (j0.d K.h) (.tail _ (core_mem (List.mem_append_left _ (itL_d hj0))))
      exact ⟨e1 ▸ m1, e2 ▸ m2⟩
    have WL : WFL K S'.its ((D, listOf (S.own.map fun p => Value.ref p.2).toArray n') :: (ow ++ S'.ext)) := by
      refine ⟨W'.lo, W'.pw, fun p hp => ?_⟩
      have fD : Off K D ∧ ∀ j ∈ S'.its, D ≠ j.x ∧ D ≠ j.dx := ⟨.inl hoD, hDi⟩
      have fI : Off K I ∧ ∀ j ∈ S'.its, I ≠ j.x ∧ I ≠ j.dx := ⟨.inr hIs, fun j hj => ⟨neN (Nat.ne_of_gt (hIi j hj).1), neN (Nat.ne_of_gt (hIi j hj).2)⟩⟩
      rcases List.mem_cons.mp hp with rfl | hp
      · exact fD
      · rcases List.mem_append.mp hp with hp | hp
        · rcases hown p hp with e | e
          · rw [e]; exact fI
          · rw [e]; exact fD
        · exact W'.ex p hp
    replace N3 := News.sub (news' := coreL K (cdE K S'.low t1 S'.lowest t2 out tu) cN S'.rV rN' oO' dV' dN' mO tV tN fV' fN' sO' (itL K.h S'.its ++ ((D, listOf (S.own.map fun p => Value.ref p.2).toArray n') :: (ow ++ S'.ext)))) N3 (by
      intro p hp
      rcases core_mem' hp with q | q
      · exact List.mem_append_left _ (.tail _ (core_mem0 q))
      · rcases List.mem_append.mp q with q | q
        · exact List.mem_append_left _ (.tail _ (core_mem (List.mem_append_left _ q)))
        · rcases List.mem_cons.mp q with rfl | q
          · exact List.mem_append_left _ (.head _)
          · rcases List.mem_append.mp q with q | q
            · exact List.mem_append_right _ q
            · exact List.mem_append_left _ (.tail _ (core_mem (List.mem_append_right _ q))))
    obtain ⟨IA, IB, hie⟩ := mem_app hit
    rw [hie] at N3 WL
    rw [hdr] at hd' hdV'
    have hh : S.own[i] = (it.reg, it.x) := by rw [hitr, hitx]
    rw [hh] at hd' hdV' hdr
    have hn2 : ((it.reg, it.x) :: S.own.drop (i + 1)).map (·.1) = (S.own.drop i).map (·.1) := by rw [← hdr, hown']
    have hn3 : ((S.own.drop i).map (·.1)).Nodup := by rw [List.map_drop]; exact hnd.sublist (List.drop_sublist _ _)
    rw [← hn2] at hn3
    have hn4 : ((S.own.drop i).map (·.2)).Nodup := by rw [List.map_drop]; exact hxnd.sublist (List.drop_sublist _ _)
    have hn5 : (S.own.drop i) = (it.reg, it.x) :: S.own.drop (i + 1) := by rw [← hown', hdr]
    rw [hn5] at hn4
    refine hide fun Pz kPz => ?_
    obtain ⟨g1, g2, g3, g4⟩ := hsl'.give
    refine kPz ?_
    clear kPz
    have hlen : (S.own.drop (i + 1)).length ≤ 20 := by rw [List.length_drop]; omega
    clear F1 N1
    rw [← hitx] at F3
    (repeat' ((fail_if_success k_extra "stopM101"); k_extra "kst"))
    (try dsimp only [List.cons_append, List.nil_append])
    refine wpAny_call (spill_its (fs := S'.fs) (oa := []) (ob := S.own.drop (i + 1)) (spl := S'.spl) (y := it.x) (by k_extra "tb_rel") (by show d + 1 < 890; omega) (by show u + 3 < 8900; omega) O (by assumption) (by assumption) WL hI' (by omega) (by omega) (by simp) (List.nodup_cons.mp hn3).1 hd' hdV' (by simp only [List.length_nil]; omega) hs' (by omega) g2 ?_)
    rename News _ _ _ _ => NX
    rename Fr _ _ _ _ => FX
    intro h4 tk4 tp oO4 sO4 t1' t2' tm' tr' ts' ta' t3 t4 t5 fV4 fN4 dV4 dN4 hI4 F4 hd4 hs4 hdV4 N4 W4 hlt4
    clear NX FX
    have hw : upd S'.its it.x (fun j => j.spilt (tempF S'.low S'.lowest S'.fs).1 tm' tr' ts' ta') = IA ++ it.spilt (tempF S'.low S'.lowest S'.fs).1 tm' tr' ts' ta' :: IB := by
      have W9 := W'
      rw [hie] at W9
      rw [hie]
      exact W9.upd _
    rw [← hw] at N4 W4
    (repeat' ((fail_if_success k_extra "stopM101"); k_extra "kst"))
    refine ⟨_, _, _, (D, listOf (S.own.map fun p => Value.ref p.2).toArray n') :: coreL K (cdE K (tempF S'.low S'.lowest S'.fs).2.1 t1' (tempF S'.low S'.lowest S'.fs).2.2.1 t2' out tu) cN (S'.rV ++ [.ref tp]) (rN' + 1) oO4 dV4 dN4 mO tV tN fV4 fN4 sO4
        (itL K.h (upd S'.its it.x (fun j => j.spilt (tempF S'.low S'.lowest S'.fs).1 tm' tr' ts' ta')) ++ ((tp, tupS it (tempF S'.low S'.lowest S'.fs).1 t3 t4 t5 ts') :: S'.ext)), rfl, by assumption, News.sub (by assumption) ?_, ?_, fun z hz => if_neg hz,
      ⟨_, _, (tempF S'.low S'.lowest S'.fs).2.2.2, S.own.drop (i + 1), _, _, S'.rV ++ [.ref tp], _⟩, rN' + 1, oO4, sO4, dV4, dN4, t1', t2', fV4, fN4, rfl, .step (tm := tm') (tr := tr') (ts := ts') (ta := ta') (t3 := t3) (t4 := t4) (t5 := t5) (tp := tp) hSp hdr hit rfl, rfl, ?_, hI4, hd4, hdV4, hs4, W4.less ?_, ?_, ?_, ?_, ?_, ?_⟩
    · intro p hp
      rcases List.mem_append.mp hp with hp | hp
      · rcases List.mem_cons.mp hp with rfl | hp
        · exact core_mem (List.mem_append_right _ (.tail _ (.head _)))
        · rcases core_mem' hp with q | q
          · exact core_mem0 q
          · refine core_mem ?_
            rcases List.mem_append.mp q with q | q
            · exact List.mem_append_left _ q
            · rcases List.mem_cons.mp q with rfl | q
              · exact List.mem_append_right _ (.head _)
              · exact List.mem_append_right _ (.tail _ (.tail _ (List.mem_append_right _ q)))
      · exact core_mem (List.mem_append_right _ (.tail _ (.tail _ (List.mem_append_left _ hp))))
    · intro p hp
      rcases List.mem_cons.mp hp with rfl | hp
      · exact hnI _ (.head _)
      · rcases core_mem' hp with q | q
        · have hzs := all_le O _ (core_key q)
          exact neN (Nat.ne_of_lt (Nat.lt_of_le_of_lt hzs hIs))
        · rcases List.mem_append.mp q with q | q
          · obtain ⟨j, hj, e⟩ := mem_itL q
            refine hide fun Pz kPz => ?_
            obtain ⟨j', hj', rfl⟩ := List.mem_map.mp hj
            refine kPz ?_
            clear kPz
            have hb := hIi j' hj'
            rcases e with rfl | rfl
            · refine neN (Nat.ne_of_lt ?_)
              show (if j'.x = it.x then _ else j').x < I
              split
              · exact hb.1
              · exact hb.1
            · refine neN (Nat.ne_of_lt ?_)
              show (if j'.x = it.x then _ else j').dx < I
              split
              · exact hb.2
              · exact hb.2
          · rcases List.mem_cons.mp q with rfl | q
            · exact neN (Nat.ne_of_gt (hlt4 (I, oI) (.tail _ (List.mem_append_left _ hoI))))
            · exact hnI p (.tail _ (core_mem (List.mem_append_right _ q)))
    · rw [List.map_append]; exact g1
    · intro p hp
      rcases List.mem_cons.mp hp with rfl | hp
      · exact .head _
      · exact .tail _ (.tail _ (List.mem_append_right _ hp))
    · intro p hp
      have hp' : p ∈ S'.own := by rw [hdr]; exact .tail _ hp
      refine hide fun Pz kPz => ?_
      obtain ⟨v, hv, hvx, hvr⟩ := hold' p hp'
      refine kPz ?_
      clear kPz
      refine ⟨v, upd_mem hv (fun e => ?_), hvx, hvr⟩
      exact (List.nodup_cons.mp hn4).1 (List.mem_map.mpr ⟨p, hp, by rw [← hvx, e]⟩)
    · exact Nat.le_trans (tempF_len _ _ _) hl1
    · show (S'.rV ++ [Value.ref tp]).length ≤ _
      rw [List.length_append, List.length_singleton]; omega
    · show (S'.spl ++ [_]).length ≤ _
      rw [List.length_append, List.length_singleton]; omega
    · intro j hj
      refine hide fun Pz kPz => ?_
      obtain ⟨j', hj', rfl⟩ := List.mem_map.mp hj
      refine kPz ?_
      clear kPz
      refine hide fun Pz kPz => ?_
      obtain ⟨j0, hj0, e1, e2⟩ := hsame j' hj'
      refine kPz ?_
      clear kPz
      refine ⟨j0, hj0, ?_, ?_⟩
      · rw [e1]; split <;> rfl
      · rw [e2]; split <;> rfl
  · intro u' nw h3 tk3 zr1 F3 N3
    refine hide fun Pz kPz => ?_
    obtain ⟨S', rN', oO', sO', dV', dN', t1, t2, fV', fN', rfl, hSp, hown', hsl', hI', hd', hdV', hs', W', hold', hl1, hl2, hl3, hsame⟩ := zr1
    refine kPz ?_
    clear kPz
    rw [List.length_map, List.drop_length] at hown'
    rw [hown'] at hd' hdV'
    clear F1 N1
    (repeat' ((fail_if_success k_extra "stopM101"); k_extra "kst"))
    exact h _ _ S' _ _ _ _ _ _ _ _ _ hSp hown' hsl' (by assumption) hI' hd' hdV' hs' (News.sub (by assumption) (fun p hp => .tail _ hp)) W'
end
end
end
example : True := by first | (w_top off; (fail_if_success walk1); trivial) | trivial
section
open PySem PySem.W PySem.Calls PyProof.Rows
section
def rootOf (its : List IR) (x : Nat) : Bool := ((its.find? fun i => decide (i.x = x)).map (·.root)).getD false
def rootSlots (its : List IR) (spl : List (Int × Nat)) : List Int := (spl.filter fun p => rootOf its p.2).map (·.1)
theorem rootOf_mem {K : Kst} {its : List IR} {ext : List (Addr × Obj)} (W : WFL K its ext) {i : IR} (h : i ∈ its) : rootOf its i.x = i.root := by
  refine hide fun Pz kPz => ?_
  obtain ⟨A, B, rfl⟩ := mem_app h
  refine kPz ?_
  clear kPz
  have hx := W.xs.1
  unfold rootOf
  have e : (A ++ i :: B).find? (fun j => decide (j.x = i.x)) = some i := by
    rw [List.find?_append, List.find?_eq_none.mpr (fun j hj => by simpa using hx j hj)]
    simp
  rw [e]; rfl
section
variable {w : World} {A₀ : Around} {E : Value → Shared → Prop} {s : Shared} {base h₀ : Heap} {env : Env} {outer : List Env} {L d u : Nat} {m mg mb : Str → Option Value} {loose : List Str} {mean : ExcName → Option Value}
  {K : Kst} {low lowest out : Int} {tl tw tu : Tok} {cN : Nat} {rV : List Value} {rN : Nat} {oO : Obj} {dV : List Value} {dN : Nat} {mO : Obj} {tV : List Value} {tN : Nat} {fV : List Value} {fN : Nat} {sO : Obj} {ext : List (Addr × Obj)}
example : True := by
  (k_with "stopM111" => first | (with_reducible show wpAny _ _ (exec (Stmt.For _ _ _ _ _) _) _ _ _) | (with_reducible show wpAny _ _ (pyIter (Value.ref _)) _ _ _) | (with_reducible show wpAny _ _ (call (Value.type "list") _ _) _ _ _) | (with_reducible show wpAny _ _ (call (Value.builtin "sorted") _ _) _ _ _))
  trivial
set_option maxRecDepth 100000 in
set_option maxHeartbeats 1000000 in
theorem note_map_spec {Q : Value → Shared → Prop} {its : List IR} {spl : List (Int × Nat)} {row : Int} {tro : Tok} {rs : List Int} {mkvs : List (Int × Value)} (C : CT w A₀ base h₀ env outer L d u mg mb loose mean) (O : K.Ok) (F : Fr h₀ L s.heap m)
    (N : News h₀ L s.heap (coreL K (cdE K low tl lowest tw out tu) cN rV rN oO dV dN mO tV tN fV fN sO (itL K.h its ++ ext))) (W : WFL K its ext)
    (hs : sO.IsDictOf (intK w) (refs spl)) (hsz : spl.length ≤ 50) (hnd : (spl.map (·.1)).Nodup) (hold : ∀ p ∈ spl, ∃ v ∈ its, v.x = p.2)
    (hI : IntsAre tV rs) (hrs : rs.length ≤ 2) (hm : mO.IsDictOf (intK w) mkvs) (hmz : mkvs.length ≤ 100)
    (h : ∀ h' tk mO' sl sn sv ns', Fr h₀ L h' m → IntsAre sv ns' → ns'.Perm (rs ++ rootSlots its spl) → ns'.Pairwise (· ≤ ·) → mO'.IsDictOf (intK w) (stored mkvs row (.ref sl)) →
      News h₀ L h' ((sl, listOf sv.toArray sn) :: coreL K (cdE K low tl lowest tw out tu) cN rV rN oO dV dN mO' tV tN fV fN sO (itL K.h its ++ ext)) → (∀ p ∈ coreL K (cdE K low tl lowest tw out tu) cN rV rN oO dV dN mO tV tN fV fN sO (itL K.h its ++ ext), @LT.lt Nat _ p.1 sl) →
      Q .none { s with heap := h', toks := tk }) :
    wpAny (model pg w) (AA d u (env :: outer)) (call (.ref 313) [.ref K.c, .int row tro] []) Q E s := by
  have fill : PySem.Challenge.rw_pb0351_01 = PySem.Challenge.rw_pb0351_01 ∧ Mine.hd.heap_1 = Mine.hd.heap_1 := by
    k_fill
    exact ⟨rfl, rfl⟩
  clear fill
  obtain ⟨B, X, T, hf, hke, hdp, hu⟩ := C
  have hO := kOk_facts O
  (repeat' ((fail_if_success k_extra "stopM111"); k_extra "kst"))
  rename News _ _ _ _ => NX
  rename Fr _ _ _ _ => FX
  refine list_copyK FX NX (News.isList NX (by k_mem)) ?_ (by rw [List.size_toArray]; have := hI.length; exact szOk (by omega))
  intro of oc h1 F1 N1 lof
  clear NX FX
  (repeat' ((fail_if_success k_extra "stopM111"); k_extra "kst"))
  rename Fr _ _ _ _ => F2
  refine For_invVF F2 rfl rfl ?_
  (repeat' ((fail_if_success k_extra "stopM111"); k_extra "kst"))
  rename News _ _ _ _ => N2
  rename Fr _ _ _ _ => F3
  have hrl := hI.length
  refine iter_dict0 (d := K.sd) (o := sO) (kvs := refs spl) (fun i nw => ∃ (oV : List Value) (n : Nat), nw = (of, listOf oV.toArray n) :: coreL K (cdE K low tl lowest tw out tu) cN rV rN oO dV dN mO tV tN fV fN sO (itL K.h its ++ ext) ∧ IntsAre oV (rs ++ rootSlots its (spl.take i)) ∧ oV.length ≤ 2 + i) rfl (notmod (by omega)) (by k_mem) hs F3 N2
    ⟨tV, _, rfl, by simpa [rootSlots] using hI, by omega⟩ ?_ ?_
  · intro i k v t nw h3 tk3 ow I hi zr1 hltI hnI hown F4 N4 _
    refine hide fun Pz kPz => ?_
    obtain ⟨oV, n, rfl, hoV, hoz⟩ := zr1
    refine kPz ?_
    clear kPz
    have hil : i < spl.length := by
      rcases Nat.lt_or_ge i spl.length with q | q
      · exact q
      · rw [List.getElem?_eq_none (by rw [refs_len]; exact q)] at hi; cases hi
    have hkv : k = (spl[i]).1 ∧ v = .ref (spl[i]).2 := by
      unfold refs at hi
      rw [List.getElem?_map, List.getElem?_eq_getElem hil] at hi
      have := Option.some.inj hi
      exact ⟨(Prod.mk.inj this).1.symm, (Prod.mk.inj this).2.symm⟩
    refine hide fun Pz kPz => ?_
    obtain ⟨rfl, rfl⟩ := hkv
    refine kPz ?_
    clear kPz
    obtain ⟨v, hv, hvx⟩ := hold spl[i] (List.getElem_mem hil)
    have hat : valueAt (refs spl) (spl[i]).1 = some (.ref v.x) := by rw [hvx]; exact refs_get hnd (List.getElem_mem hil)
    have hq1 : (v.x, instObj 108 v.dx) ∈ itL K.h its ++ ext ++ ow := List.mem_append_left _ (List.mem_append_left _ (itL_o hv))
    have hq2 : (v.dx, dictOf (itE K.h v.t v.v v.mode v.tm v.value v.tv v.reg v.tr v.root v.slot v.ts v.was v.ta) v.n) ∈ itL K.h its ++ ext ++ ow := List.mem_append_left _ (List.mem_append_left _ (itL_d hv))
    have hroot : rootOf its (spl[i]).2 = v.root := by rw [← hvx]; exact rootOf_mem W hv
    have htake : rootSlots its (spl.take (i + 1)) = rootSlots its (spl.take i) ++ (if v.root = true then [(spl[i]).1] else []) := by
      unfold rootSlots
      rw [List.take_add_one, List.getElem?_eq_getElem hil, List.filter_append, List.map_append]
      congr 1
      simp only [Option.toList_some, List.filter_cons, hroot, List.filter_nil]
      split <;> rfl
    have hofs : K.sd ≠ of := neN (Nat.ne_of_lt (lof (K.sd, sO) core_mem_sd))
    have hof : ∀ p ∈ coreL K (cdE K low tl lowest tw out tu) cN rV rN oO dV dN mO tV tN fV fN sO (itL K.h its ++ ext ++ ow), p.1 ≠ of := by
      intro p hp
      rcases core_mem' hp with q | q
      · exact neN (Nat.ne_of_lt (lof p (core_mem0 q)))
      · rcases List.mem_append.mp q with q | q
        · exact neN (Nat.ne_of_lt (lof p (core_mem q)))
        · rcases hown p q with e | e
          · rw [e]; exact neN (Nat.ne_of_gt (hltI (of, listOf tV.toArray oc) (.head _)))
          · rw [e]; exact hofs
    replace N4 : News _ _ _ ((of, listOf oV.toArray n) :: coreL K (cdE K low tl lowest tw out tu) cN rV rN oO dV dN mO tV tN fV fN sO (itL K.h its ++ ext ++ ow)) := N4
    clear N2 F3
    (repeat' ((fail_if_success k_extra "stopM111"); k_extra "kst"))
    · rename _ = true => hr
      refine ⟨_, _, _, (of, listOf (oV ++ [Value.int (spl[i]).1 t]).toArray (n + 1)) :: coreL K (cdE K low tl lowest tw out tu) cN rV rN oO dV dN mO tV tN fV fN sO (itL K.h its ++ ext), rfl, by assumption, by assumption, ?_, fun z hz => if_neg hz, _, _, rfl, ?_, ?_⟩
      · intro p hp
        rcases List.mem_cons.mp hp with rfl | hp
        · exact hnI (of, listOf oV.toArray n) (.head _)
        · exact hnI p (.tail _ hp)
      · rw [htake, if_pos hr, ← List.append_assoc]; exact ints_snoc hoV
      · rw [List.length_append, List.length_singleton]; omega
    · rename _ = false => hr
      refine ⟨_, _, _, _, rfl, by assumption, by assumption, hnI, fun z hz => if_neg hz, _, _, rfl, ?_, by omega⟩
      rw [htake, if_neg (by rw [hr]; exact Bool.false_ne_true), List.append_nil]; exact hoV
  · intro u' nw h3 tk3 zr1 F4 N4
    refine hide fun Pz kPz => ?_
    obtain ⟨oV, n, rfl, hoV, hoz⟩ := zr1
    refine kPz ?_
    clear kPz
    rw [refs_len, List.take_length] at hoV
    have hov := hoV.length
    clear N2 F3
    (repeat' ((fail_if_success k_extra "stopM111"); k_extra "kst"))
    rename Fr _ _ _ _ => F5
    rename News _ _ _ _ => N5
    refine kso_sorted F5 N5 (News.isList N5 (by k_mem)) hoV ?_ ?_
    · rw [List.length_append]
      have e2 : (rootSlots its spl).length ≤ spl.length := by unfold rootSlots; rw [List.length_map]; exact List.length_filter_le _ _
      omega
    intro sl sv ns' sn h4 F6 N6 lsl hsv hlen hperm hpw _
    clear F5 N5
    have lsl' : ∀ p ∈ coreL K (cdE K low tl lowest tw out tu) cN rV rN oO dV dN mO tV tN fV fN sO (itL K.h its ++ ext), @LT.lt Nat _ p.1 sl := fun p hp => lsl p (.tail _ hp)
    replace N6 := News.sub (news' := (sl, listOf sv.toArray sn) :: coreL K (cdE K low tl lowest tw out tu) cN rV rN oO dV dN mO tV tN fV fN sO (itL K.h its ++ ext)) N6 (by
      intro p hp
      rcases List.mem_cons.mp hp with rfl | hp
      · exact .head _
      · exact .tail _ (.tail _ hp))
    have hslm : sl ≠ K.mp := neN (Nat.ne_of_gt (lsl' (K.mp, mO) (core_mem0 (by simp [coreL]))))
    have hoff := W.off
    (repeat' ((fail_if_success k_extra "stopM111"); k_extra "kst"))
    exact h _ _ _ sl sn sv ns' (by assumption) hsv hperm hpw (by assumption) (by assumption) lsl'
end
end
end
example : True := by first | (w_top off; (fail_if_success walk1); trivial) | trivial
section
open PySem PySem.W PySem.Calls PyProof.Rows
section
section
variable {w : World} {A₀ : Around} {E : Value → Shared → Prop} {s : Shared} {base h₀ : Heap} {env : Env} {outer : List Env} {L d u : Nat} {m mg mb : Str → Option Value} {loose : List Str} {mean : ExcName → Option Value}
  {K : Kst} {low lowest out : Int} {tl tw tu : Tok} {cN : Nat} {rV : List Value} {rN : Nat} {oO : Obj} {dV : List Value} {dN : Nat} {mO : Obj} {tV : List Value} {tN : Nat} {fV : List Value} {fN : Nat} {sO : Obj} {ext : List (Addr × Obj)}
example : True := by
  (k_with "stopM121" => first | (with_reducible show wpAny _ _ (compareOp CmpOp.NotEq _ _) _ _ _))
  trivial
set_option maxRecDepth 100000 in
set_option maxHeartbeats 1000000 in
theorem next_spec {Q : Value → Shared → Prop} {r n : Nat} {vs : List Value} {ns : List Int} {rest : List (Addr × Obj)} (C : CT w A₀ base h₀ env outer L d u mg mb loose mean) (F : Fr h₀ L s.heap m)
    (N : News h₀ L s.heap ((r, listOf vs.toArray n) :: rest)) (hR : ∀ p ∈ rest, p.1 ≠ r) (hI : IntsAre vs ns) (hz : ns.length ≤ 900)
    (h : ∀ h' tk k t vs' n' ns', Fr h₀ L h' m → IntsAre vs' ns' → ns'.length ≤ ns.length → News h₀ L h' ((r, listOf vs'.toArray n') :: rest) → Q (.int k t) { s with heap := h', toks := tk }) :
    wpAny (model pg w) (AA d u (env :: outer)) (call (.ref 441) [.ref r] []) Q E s := by
  have fill : PySem.Challenge.rw_pb0351_01 = PySem.Challenge.rw_pb0351_01 ∧ Mine.hd.heap_1 = Mine.hd.heap_1 := by
    k_fill
    exact ⟨rfl, rfl⟩
  clear fill
  obtain ⟨B, X, T, hf, hke, hdp, hu⟩ := C
  by_cases hn : ns = []
  · subst hn
    cases hI
    (repeat' ((fail_if_success k_extra "stopM121"); k_extra "kst"))
    rename Fr _ _ _ _ => F1
    rename News _ _ _ _ => N1
    refine ne_intsK (News.isList N1 (by k_mem)) .nil (News.isList N1 (by k_mem)) .nil (by show u + 3 + 64 < 9900; omega) ?_
    dsimp only [decide_true, Bool.not_true]
    (repeat' ((fail_if_success k_extra "stopM121"); k_extra "kst"))
    exact h _ _ _ _ _ _ [] (by assumption) .nil (Nat.le_refl _) (News.sub (by assumption) (fun p hp => .tail _ hp))
  · refine hide fun Pz kPz => ?_
    obtain ⟨vs', y, t, rfl, hI', hl⟩ := ints_last hI hn
    refine kPz ?_
    clear kPz
    have e1 := hI.length
    rw [List.length_append, List.length_singleton] at e1
    (repeat' ((fail_if_success k_extra "stopM121"); k_extra "kst"))
    rename Fr _ _ _ _ => F1
    rename News _ _ _ _ => N1
    refine ne_intsK (News.isList N1 (by k_mem)) hI (News.isList N1 (by k_mem)) .nil (by show u + 3 + 64 < 9900; omega) ?_
    rw [decide_eq_false hn]
    dsimp only [Bool.not_false]
    (repeat' ((fail_if_success k_extra "stopM121"); k_extra "kst"))
    exact h _ _ _ _ vs' _ ns.dropLast (by assumption) hI' (by simp) (News.sub (by assumption) (fun p hp => .tail _ hp))
end
end
end
example : True := by first | (w_top off; (fail_if_success walk1); trivial) | trivial
section
open PySem PySem.W PySem.Calls PyProof.Rows
section
section
variable {w : World} {A₀ : Around} {E : Value → Shared → Prop} {s : Shared} {base h₀ : Heap} {env : Env} {outer : List Env} {L d u : Nat} {m mg mb : Str → Option Value} {loose : List Str} {mean : ExcName → Option Value}
  {K : Kst} {low lowest out : Int} {tl tw tu : Tok} {cN : Nat} {rV : List Value} {rN : Nat} {oO : Obj} {dV : List Value} {dN : Nat} {mO : Obj} {tV : List Value} {tN : Nat} {fV : List Value} {fN : Nat} {sO : Obj} {ext : List (Addr × Obj)}
example : True := by
  (k_with "stopM131" => first | (with_reducible show wpAny _ _ (exec (Stmt.For _ _ _ _ _) _) _ _ _) | (with_reducible show wpAny _ _ (subscriptTail _ _ (Value.ref _) (Value.ref _)) _ _ _) | (with_reducible show wpAny _ _ (pyIter _) _ _ _))
  trivial
set_option maxRecDepth 100000 in
set_option maxHeartbeats 1000000 in
theorem played_spec {Q : Value → Shared → Prop} {rg wd rwA rwN : Nat} {rgO wdO : Obj} {rkv wkv : List (Int × Value)} {pv : List Value} {ops : List Op} {spt : Int} {tsp : Tok} {rest : List (Addr × Obj)} (C : CT w A₀ base h₀ env outer L d u mg mb loose mean) (F : Fr h₀ L s.heap m)
    (N : News h₀ L s.heap ((rg, rgO) :: (wd, wdO) :: rest)) (hgw : rg ≠ wd) (hg1 : 100 < rg) (hw1 : 100 < wd) (hR1 : ∀ p ∈ rest, p.1 ≠ rg) (hR2 : ∀ p ∈ rest, p.1 ≠ wd)
    (hrw : (rwA, listOf (pv ++ ops.map fun q => Value.ref q.tp).toArray rwN) ∈ rest) (hops : ∀ q ∈ ops, (q.tp, q.o) ∈ rest) (hsp : spt = (pv.length : Int)) (hz : pv.length + ops.length ≤ 9999)
    (hr : rgO.IsDictOf (intK w) rkv) (hw : wdO.IsDictOf (intK w) wkv) (hrz : rkv.length + ops.length ≤ 9999) (hwz : wkv.length + ops.length ≤ 9999)
    (h : ∀ h' tk rgO' wdO', Fr h₀ L h' m → rgO'.IsDictOf (intK w) (ops.foldl playF (rkv, wkv)).1 → wdO'.IsDictOf (intK w) (ops.foldl playF (rkv, wkv)).2 → News h₀ L h' ((rg, rgO') :: (wd, wdO') :: rest) → Q (.bool true) { s with heap := h', toks := tk }) :
    wpAny (model pg w) (AA d u (env :: outer)) (call (.ref 448) [.ref rwA, .int spt tsp, .ref rg, .ref wd] []) Q E s := by
  have fill : PySem.Challenge.rw_pb0351_01 = PySem.Challenge.rw_pb0351_01 ∧ Mine.hd.heap_1 = Mine.hd.heap_1 := by
    k_fill
    exact ⟨rfl, rfl⟩
  clear fill
  obtain ⟨B, X, T, hf, hke, hdp, hu⟩ := C
  (repeat' ((fail_if_success k_extra "stopM131"); k_extra "kst"))
  rename Fr _ _ _ _ => F0
  refine For_turns F0 ?_
  (repeat' ((fail_if_success k_extra "stopM131"); k_extra "kst"))
  rename News _ _ _ _ => N0
  refine kmk_slice F0 N0 (News.isList N0 (by k_mem)) (IsPart.int _ _) IsPart.none ?_ (by with_unfolding_all rfl) (by intro _; with_unfolding_all rfl) (by rw [List.size_toArray, List.length_append, List.length_map]; exact szOk (by omega))
  intro D h1 F1 N1 lD
  subst hsp
  rw [pick_from _ (by omega), Int.toNat_natCast, List.drop_left] at N1
  clear N0 F0
  (repeat' ((fail_if_success k_extra "stopM131"); k_extra "kst"))
  refine iter_listT (l := D) (vs := ops.map fun q => Value.ref q.tp) (n := 0) [Str.ofString "name", Str.ofString "a", Str.ofString "b", Str.ofString "c"] (fun i nw => ∃ ro wo, nw = (D, listOf (ops.map fun q => Value.ref q.tp).toArray 0) :: (rg, ro) :: (wd, wo) :: rest ∧ ro.IsDictOf (intK w) ((ops.take i).foldl playF (rkv, wkv)).1 ∧ wo.IsDictOf (intK w) ((ops.take i).foldl playF (rkv, wkv)).2 ∧
    ((ops.take i).foldl playF (rkv, wkv)).1.length ≤ rkv.length + i ∧ ((ops.take i).foldl playF (rkv, wkv)).2.length ≤ wkv.length + i) rfl (by k_mem) F1 N1 ⟨rgO, wdO, rfl, hr, hw, Nat.le_refl _, Nat.le_refl _⟩ ?_ ?_
  · intro i v u' nw h3 tk3 ow I hi zr1 hltI hnI hown F3 N3 _
    refine hide fun Pz kPz => ?_
    obtain ⟨ro, wo, rfl, hro, hwo, hl1, hl2⟩ := zr1
    refine kPz ?_
    clear kPz
    have hil : i < ops.length := by
      rcases Nat.lt_or_ge i ops.length with q | q
      · exact q
      · rw [List.getElem?_eq_none (by rw [List.length_map]; exact q)] at hi; cases hi
    have hv : v = .ref (ops[i]).tp := by
      rw [List.getElem?_map, List.getElem?_eq_getElem hil] at hi
      exact (Option.some.inj hi).symm
    subst hv
    have hstep : (ops.take (i + 1)).foldl playF (rkv, wkv) = playF ((ops.take i).foldl playF (rkv, wkv)) ops[i] := by
      rw [List.take_add_one, List.getElem?_eq_getElem hil, List.foldl_append]; rfl
    rw [hstep]
    generalize hq : ops[i] = q at *
    have hqm : (q.tp, q.o) ∈ rest ++ ow := List.mem_append_left _ (hops q (by rw [← hq]; exact List.getElem_mem hil))
    generalize hst : (ops.take i).foldl playF (rkv, wkv) = st at *
    obtain ⟨rk, wk⟩ := st
    dsimp only at hro hwo hl1 hl2
    have hDg : rg < D := lD (rg, rgO) (.head _)
    have hDw : wd < D := lD (wd, wdO) (.tail _ (.head _))
    have hIg : rg < I := hltI (rg, rgO) (.tail _ (.head _))
    have hIw : wd < I := hltI (wd, wdO) (.tail _ (.tail _ (.head _)))
    have hA1 : ∀ p ∈ rest ++ ow, p.1 ≠ rg := by
      intro p hp
      rcases List.mem_append.mp hp with hp | hp
      · exact hR1 p hp
      · rcases hown p hp with e | e
        · rw [e]; exact neN (Nat.ne_of_gt hIg)
        · rw [e]; exact neN (Nat.ne_of_gt hDg)
    have hA2 : ∀ p ∈ rest ++ ow, p.1 ≠ wd := by
      intro p hp
      rcases List.mem_append.mp hp with hp | hp
      · exact hR2 p hp
      · rcases hown p hp with e | e
        · rw [e]; exact neN (Nat.ne_of_gt hIw)
        · rw [e]; exact neN (Nat.ne_of_gt hDw)
    have hn1 : ∀ (ro' wo' : Obj), ∀ p ∈ (D, listOf (ops.map fun q => Value.ref q.tp).toArray 0) :: (rg, ro') :: (wd, wo') :: rest, p.1 ≠ I := by
      intro ro' wo' p hp
      rcases List.mem_cons.mp hp with rfl | hp
      · exact hnI (D, _) (.head _)
      · rcases List.mem_cons.mp hp with rfl | hp
        · exact hnI (rg, ro) (.tail _ (.head _))
        · rcases List.mem_cons.mp hp with rfl | hp
          · exact hnI (wd, wo) (.tail _ (.tail _ (.head _)))
          · exact hnI p (.tail _ (.tail _ (.tail _ hp)))
    replace N3 : News _ _ _ ((D, listOf (ops.map fun q => Value.ref q.tp).toArray 0) :: (rg, ro) :: (wd, wo) :: (rest ++ ow)) := N3
    refine hide fun Pz kPz => ?_
    obtain ⟨tp, str, qa, qc, t1, t2, t3, t4⟩ := q
    refine kPz ?_
    clear kPz
    dsimp only [Op.o] at hqm ⊢
    clear F1 N1
    cases str with
    | true =>
      simp only [if_true] at hqm
      (repeat' ((fail_if_success k_extra "stopM131"); k_extra "kst"))
      rename Obj.IsDictOf (intKind _ _) _ (stored _ _ _) => hd9
      rename Obj => o9
      refine ⟨_, _, _, (D, listOf (ops.map fun q => Value.ref q.tp).toArray 0) :: (rg, ro) :: (wd, o9) :: rest, rfl, by assumption, News.sub (by assumption) ?_, hn1 _ _, fun z hz => ?_, _, _, rfl, ?_, ?_, ?_, ?_⟩
      · intro p hp
        rcases List.mem_append.mp hp with hp | hp
        · rcases List.mem_cons.mp hp with rfl | hp
          · exact .tail _ (.head _)
          · rcases List.mem_cons.mp hp with rfl | hp
            · exact .tail _ (.tail _ (.head _))
            · rcases List.mem_cons.mp hp with rfl | hp
              · exact .tail _ (.tail _ (.tail _ (.head _)))
              · exact .tail _ (.tail _ (.tail _ (.tail _ (List.mem_append_left _ hp))))
        · exact .tail _ (.tail _ (.tail _ (.tail _ (List.mem_append_right _ hp))))
      · have z1 : z ≠ Str.ofString "name" := by rintro rfl; revert hz; decide
        have z2 : z ≠ Str.ofString "a" := by rintro rfl; revert hz; decide
        have z3 : z ≠ Str.ofString "b" := by rintro rfl; revert hz; decide
        have z4 : z ≠ Str.ofString "c" := by rintro rfl; revert hz; decide
        simp only [z1, z2, z3, z4, if_false, ovr, hz, Bool.false_eq_true]
      · exact hro
      · exact hd9
      · exact Nat.le_trans hl1 (Nat.le_succ _)
      · exact Nat.le_trans (stored_length_le _ _ _) (Nat.succ_le_succ hl2)
    | false =>
      simp only [Bool.false_eq_true, if_false] at hqm
      (repeat' ((fail_if_success k_extra "stopM131"); k_extra "kst"))
      rename Obj.IsDictOf (intKind _ _) _ (stored _ _ _) => hd9
      rename Obj => o9
      refine ⟨_, _, _, (D, listOf (ops.map fun q => Value.ref q.tp).toArray 0) :: (rg, o9) :: (wd, wo) :: rest, rfl, by assumption, News.sub (by assumption) ?_, hn1 _ _, fun z hz => ?_, _, _, rfl, ?_, ?_, ?_, ?_⟩
      · intro p hp
        rcases List.mem_append.mp hp with hp | hp
        · rcases List.mem_cons.mp hp with rfl | hp
          · exact .tail _ (.head _)
          · rcases List.mem_cons.mp hp with rfl | hp
            · exact .tail _ (.tail _ (.head _))
            · rcases List.mem_cons.mp hp with rfl | hp
              · exact .tail _ (.tail _ (.tail _ (.head _)))
              · exact .tail _ (.tail _ (.tail _ (.tail _ (List.mem_append_left _ hp))))
        · exact .tail _ (.tail _ (.tail _ (.tail _ (List.mem_append_right _ hp))))
      · have z1 : z ≠ Str.ofString "name" := by rintro rfl; revert hz; decide
        have z2 : z ≠ Str.ofString "a" := by rintro rfl; revert hz; decide
        have z3 : z ≠ Str.ofString "b" := by rintro rfl; revert hz; decide
        have z4 : z ≠ Str.ofString "c" := by rintro rfl; revert hz; decide
        simp only [z1, z2, z3, z4, if_false, ovr, hz, Bool.false_eq_true]
      · exact hd9
      · exact hwo
      · exact Nat.le_trans (stored_length_le _ _ _) (Nat.succ_le_succ hl1)
      · exact Nat.le_trans hl2 (Nat.le_succ _)
  · intro u' nw h3 tk3 zr1 F3 N3
    refine hide fun Pz kPz => ?_
    obtain ⟨ro, wo, rfl, hro, hwo, hl1, hl2⟩ := zr1
    refine kPz ?_
    clear kPz
    rw [List.length_map, List.take_length] at hro hwo
    clear F1 N1
    (repeat' ((fail_if_success k_extra "stopM131"); k_extra "kst"))
    exact h _ _ ro wo (by assumption) hro hwo (News.sub (by assumption) (fun p hp => .tail _ hp))
end
end
end
example : True := by first | (w_top off; (fail_if_success walk1); trivial) | trivial
section
open PySem PySem.W PySem.Calls PyProof.Rows
section
section
variable {w : World} {A₀ : Around} {E : Value → Shared → Prop} {s : Shared} {base h₀ : Heap} {env : Env} {outer : List Env} {L d u : Nat} {m mg mb : Str → Option Value} {loose : List Str} {mean : ExcName → Option Value}
  {K : Kst} {low lowest out : Int} {tl tw tu : Tok} {cN : Nat} {rV : List Value} {rN : Nat} {oO : Obj} {dV : List Value} {dN : Nat} {mO : Obj} {tV : List Value} {tN : Nat} {fV : List Value} {fN : Nat} {sO : Obj} {ext : List (Addr × Obj)}
example : True := by
  (k_with "stopM141" => first | (with_reducible show wpAny _ _ (exec (Stmt.For _ _ _ _ _) _) _ _ _) | (with_reducible show wpAny _ _ (subscriptTail _ _ (Value.ref _) (Value.ref _)) _ _ _) | (with_reducible show wpAny _ _ (pyIter _) _ _ _) | (with_reducible show wpAny _ _ (call (Value.type "range") _ _) _ _ _) | (with_reducible show wpAny _ _ (call (Value.builtin "list.reverse") _ _) _ _ _))
  trivial
set_option maxRecDepth 100000 in
set_option maxHeartbeats 1000000 in
theorem row_spec {Q : Value → Shared → Prop} {sc : Nat} {vs : List Value} {ns : List Int} {rest : List (Addr × Obj)} (C : CT w A₀ base h₀ env outer L d u mg mb loose mean) (F : Fr h₀ L s.heap m)
    (N : News h₀ L s.heap rest) (hsc : h₀.IsList sc vs.toArray) (hI : IntsAre vs ns) (hz : ns.length ≤ 63)
    (h : ∀ h' tk r rv rn n, Fr h₀ L h' m → News h₀ L h' ((r, listOf rv.toArray n) :: rest) → (∀ p ∈ rest, @LT.lt Nat _ p.1 r) → IntsAre rv rn → rn.length ≤ 160 → Q (.ref r) { s with heap := h', toks := tk }) :
    wpAny (model pg w) (AA d u (env :: outer)) (call (.ref 434) [.ref sc] []) Q E s := by
  have fill : PySem.Challenge.rw_pb0351_01 = PySem.Challenge.rw_pb0351_01 ∧ Mine.hd.heap_1 = Mine.hd.heap_1 := by
    k_fill
    exact ⟨rfl, rfl⟩
  clear fill
  obtain ⟨B, X, T, hf, hke, hdp, hu⟩ := C
  (repeat' ((fail_if_success k_extra "stopM141"); k_extra "kst"))
  rename Fr _ _ _ _ => F0
  refine For_invVF F0 rfl rfl ?_
  (repeat' ((fail_if_success k_extra "stopM141"); k_extra "kst"))
  rename News _ _ _ _ => N0
  rename (∀ p : Addr × Obj, p ∈ rest → _) => hrr
  rename_i r _ _
  have hl1 := hI.length
  rename (Fr h₀ L _ m) => FG
  refine kmk_slice F0 N0 (its := vs.toArray) ((hsc.at (fun o e => FG.keep sc o e)).at (fun o e => F0.keep sc o e)) IsPart.none (IsPart.int _ _) ?_ (by with_unfolding_all rfl) (by intro _; with_unfolding_all rfl) (by rw [List.size_toArray]; exact szOk (by omega))
  intro D h1 F1 N1 lD
  rw [pick_upto _ (by omega)] at N1
  have hI40 := hI.take 40
  clear N0
  (repeat' ((fail_if_success k_extra "stopM141"); k_extra "kst"))
  have hI40l := hI40.length
  refine iter_listN (l := D) (vs := List.take (Int.toNat 40) vs) (n := 0) [Str.ofString "cell", Str.ofString "figure", Str.ofString "lap"] (by decide) (fun i _ nw => ∃ rv rn n, nw = (D, listOf (List.take (Int.toNat 40) vs).toArray 0) :: (r, listOf rv.toArray n) :: rest ∧ IntsAre rv rn ∧ rn.length ≤ 31 * i) rfl (by k_mem) F1 N1 ⟨[], [], _, rfl, .nil, Nat.zero_le _⟩ ?_ ?_
  · intro i v u' nw h3 tk3 ow I hi zr1 hltI hnI hown F3 N3 zr2
    refine hide fun Pz kPz => ?_
    obtain ⟨rv, rn, n, rfl, hrv, hrl⟩ := zr1
    obtain ⟨oI, hoI⟩ := zr2
    refine kPz ?_
    clear kPz
    refine hide fun Pz kPz => ?_
    obtain ⟨cl, tc, rfl, hcl⟩ := hI40.at i v hi
    refine kPz ?_
    clear kPz
    have hi40 : i < 40 := by
      rcases Nat.lt_or_ge i 40 with q | q
      · exact q
      · rw [List.getElem?_eq_none (by rw [List.length_take]; exact Nat.le_trans (Nat.min_le_left _ _) q)] at hi; cases hi
    have hDr : @LT.lt Nat _ r D := lD (r, _) (.head _)
    have hIr : @LT.lt Nat _ r I := hltI (r, listOf #[] 0) (.tail _ (.head _))
    have hA1 : ∀ p ∈ rest ++ ow, p.1 ≠ r := by
      intro p hp
      rcases List.mem_append.mp hp with hp | hp
      · exact neN (Nat.ne_of_lt (hrr p hp))
      · rcases hown p hp with e | e
        · rw [e]; exact neN (Nat.ne_of_gt hIr)
        · rw [e]; exact neN (Nat.ne_of_gt hDr)
    have hrvl := hrv.length
    replace N3 : News _ _ _ ((D, listOf (List.take (Int.toNat 40) vs).toArray 0) :: (r, listOf rv.toArray n) :: (rest ++ ow)) := N3
    clear N1 F1
    (repeat' ((fail_if_success k_extra "stopM141"); k_extra "kst"))
    all_goals (
      rename Fr _ _ _ _ => F5
      rename News _ _ _ _ => N5
      clear F3
      refine For_invVF F5 rfl rfl ?_
      (repeat' ((fail_if_success k_extra "stopM141"); k_extra "kst"))
      refine range1_rows F5 N5 ?_
      intro h5 tk5 a1 a2 a3 hr5 F6 N6 _
      clear F5 N5
      (repeat' ((fail_if_success k_extra "stopM141"); k_extra "kst"))
      refine iter_rangeN (n := 30) [Str.ofString "figure", Str.ofString "lap"] (by decide) (fun k m nw => (∃ f t, m (Str.ofString "figure") = some (Value.int f t)) ∧ ∃ rv2 rn2 n2, nw = (D, listOf (List.take (Int.toNat 40) vs).toArray 0) :: (r, listOf (List.toArray rv2) n2) :: (rest ++ ow) ∧ IntsAre rv2 rn2 ∧ rn2.length ≤ 31 * i + 1 + k) rfl hr5 (by decide) (by decide) F6 N6 ⟨⟨_, _, rfl⟩, _, rn ++ [_], _, rfl, ints_snoc hrv, by rw [List.length_append, List.length_singleton]; omega⟩ ?_ ?_
      · intro k t' u2 nw2 h6 tk6 ow2 I2 hk zr1 hltI2 hnI2 hown2 F7 N7 zr2
        refine hide fun Pz kPz => ?_
        obtain ⟨⟨f, tf, hf9⟩, rv2, rn2, n2, rfl, hrv2, hrl2⟩ := zr1
        obtain ⟨oI2, hoI2⟩ := zr2
        refine kPz ?_
        clear kPz
        have hIr2 : @LT.lt Nat _ r I2 := hltI2 (r, _) (.tail _ (.head _))
        have hA2 : ∀ p ∈ rest ++ ow ++ ow2, p.1 ≠ r := by
          intro p hp
          rcases List.mem_append.mp hp with hp | hp
          · exact hA1 p hp
          · rw [hown2 p hp]; exact neN (Nat.ne_of_gt hIr2)
        have hrvl2 := hrv2.length
        rw [map_at hf9] at F7
        have hnn : ∀ (z : List Value) (q : Nat), ∀ p ∈ (D, listOf (List.take (Int.toNat 40) vs).toArray 0) :: (r, listOf (List.toArray z) q) :: (rest ++ ow), p.1 ≠ I2 := by
          intro z q p hp
          rcases List.mem_cons.mp hp with e | hp
          · rw [e]; exact hnI2 (D, listOf (List.take (Int.toNat 40) vs).toArray 0) (.head _)
          · rcases List.mem_cons.mp hp with e | hp
            · rw [e]; exact hnI2 (r, listOf (List.toArray rv2) n2) (.tail _ (.head _))
            · exact hnI2 p (.tail _ (.tail _ hp))
        replace N7 : News _ _ _ ((D, listOf (List.take (Int.toNat 40) vs).toArray 0) :: (r, listOf (List.toArray rv2) n2) :: (rest ++ ow ++ ow2)) := N7
        clear F6 N6
        (repeat' ((fail_if_success k_extra "stopM141"); k_extra "kst"))
        · refine ⟨_, _, _, (D, listOf (List.take (Int.toNat 40) vs).toArray 0) :: (r, listOf (List.toArray (rv2 ++ [_])) (n2 + 1)) :: (rest ++ ow), rfl, by assumption, by assumption, hnn _ _, ?_, ⟨_, _, rfl⟩, _, rn2 ++ [_], _, rfl, ints_snoc hrv2, ?_⟩
          · intro z hz
            have z2 : z ≠ Str.ofString "figure" := by rintro rfl; revert hz; decide
            have z3 : z ≠ Str.ofString "lap" := by rintro rfl; revert hz; decide
            have hz' : [Str.ofString "figure", Str.ofString "lap"].contains z = false := hz
            simp only [z2, z3, if_false, ovr, hz', Bool.false_eq_true]
          · rw [List.length_append, List.length_singleton]; omega
        · refine ⟨_, _, _, (D, listOf (List.take (Int.toNat 40) vs).toArray 0) :: (r, listOf (List.toArray rv2) n2) :: (rest ++ ow), rfl, by assumption, by assumption, hnn _ _, ?_, ⟨_, _, rfl⟩, _, rn2, _, rfl, hrv2, by omega⟩
          · intro z hz
            have z2 : z ≠ Str.ofString "figure" := by rintro rfl; revert hz; decide
            have z3 : z ≠ Str.ofString "lap" := by rintro rfl; revert hz; decide
            have hz' : [Str.ofString "figure", Str.ofString "lap"].contains z = false := hz
            simp only [z2, z3, if_false, ovr, hz', Bool.false_eq_true]
      · intro u2 nw2 h6 tk6 zr1 F7 N7
        refine hide fun Pz kPz => ?_
        obtain ⟨_, rv2, rn2, n2, rfl, hrv2, hrl2⟩ := zr1
        refine kPz ?_
        clear kPz
        clear F6 N6
        (repeat' ((fail_if_success k_extra "stopM141"); k_extra "kst"))
        refine ⟨_, _, _, (D, listOf (List.take (Int.toNat 40) vs).toArray 0) :: (r, listOf (List.toArray rv2) n2) :: rest, rfl, by assumption, by assumption, ?_, ?_, _, rn2, _, rfl, hrv2, by omega⟩
        · intro p hp
          rcases List.mem_cons.mp hp with e | hp
          · rw [e]; exact hnI (D, listOf (List.take (Int.toNat 40) vs).toArray 0) (.head _)
          · rcases List.mem_cons.mp hp with e | hp
            · rw [e]; exact hnI (r, listOf (List.toArray rv) n) (.tail _ (.head _))
            · exact hnI p (.tail _ (.tail _ hp))
        · intro z hz
          have z1 : z ≠ Str.ofString "cell" := by rintro rfl; revert hz; decide
          have z2 : z ≠ Str.ofString "figure" := by rintro rfl; revert hz; decide
          have z3 : z ≠ Str.ofString "lap" := by rintro rfl; revert hz; decide
          have hz' : [Str.ofString "cell", Str.ofString "figure", Str.ofString "lap"].contains z = false := hz
          have hz'' : [Str.ofString "figure", Str.ofString "lap"].contains z = false := by
            cases hc : [Str.ofString "figure", Str.ofString "lap"].contains z with
            | false => rfl
            | true =>
              rw [List.contains_cons, hc] at hz'
              simp at hz'
          simp only [z1, z2, z3, if_false, ovr, hz', hz'', Bool.false_eq_true])
  · intro u' nw h3 tk3 zr1 F3 N3
    refine hide fun Pz kPz => ?_
    obtain ⟨rv, rn, n, rfl, hrv, hrl⟩ := zr1
    refine kPz ?_
    clear kPz
    clear N1 F1
    (repeat' ((fail_if_success k_extra "stopM141"); k_extra "kst"))
    refine kmk_slice F3 N3 (its := List.toArray rv) (News.isList N3 (by k_mem)) IsPart.none (IsPart.int _ _) ?_ (by with_unfolding_all rfl) (by intro _; with_unfolding_all rfl) (by rw [List.size_toArray, hrv.length]; exact szOk (by have : (List.take (Int.toNat 40) vs).length ≤ 40 := List.length_take_le _ _; omega))
    intro D2 h9 F9 N9 lD2
    rw [pick_upto _ (by omega)] at N9
    have hI160 := hrv.take 160
    have hD2 : ∀ p ∈ (D, listOf (List.take (Int.toNat 40) vs).toArray 0) :: (r, listOf (List.toArray rv) n) :: rest, p.1 ≠ D2 := fun p hp => neN (Nat.ne_of_lt (lD2 p hp))
    clear F3 N3
    (repeat' ((fail_if_success k_extra "stopM141"); k_extra "kst"))
    (try dsimp only [List.cons_append, List.nil_append])
    rename Fr _ _ _ _ => FA
    rename News _ _ _ _ => NA
    refine kl_reverse FA NA rfl (Upd.head hD2) (by rw [List.length_take]; exact szOk (Nat.le_trans (Nat.min_le_left _ _) (by decide))) ?_
    intro hB FB NB
    clear FA NA
    (repeat' ((fail_if_success k_extra "stopM141"); k_extra "kst"))
    exact h _ _ D2 _ _ _ (by assumption) (News.sub (by assumption) (fun p hp => by
      rcases List.mem_cons.mp hp with rfl | hp
      · exact .head _
      · exact .tail _ (.tail _ (.tail _ hp)))) (fun p hp => lD2 p (.tail _ (.tail _ hp))) (IntsAre.reverse hI160) (by rw [List.length_reverse]; exact List.length_take_le _ _)
end
end
end
example : True := by first | (w_top off; (fail_if_success walk1); trivial) | trivial
section
open PySem PySem.W PySem.Calls PyProof.Rows
section
theorem getL_hd {name : Str} {h : Int} {t : Tok} {v : Value} {es : List DictEntry} : getL name (⟨h, .str name t, v⟩ :: es) = some (some v) := by
  simp [getL, Value.isStr]
theorem getL_hds {name : Str} {h : Int} {t : Tok} {v : Value} {es : List DictEntry} : (getL name (⟨h, .str name t, v⟩ :: es)).isSome = true := by rw [getL_hd]; rfl
theorem news_tail {h₀ h : Heap} {L : Addr} {x : Addr × Obj} {l : List (Addr × Obj)} (N : News h₀ L h (x :: l)) : News h₀ L h l := fun p hp => N p (.tail _ hp)
section
variable {w : World} {A₀ : Around} {E : Value → Shared → Prop} {s : Shared} {base h₀ : Heap} {env : Env} {outer : List Env} {L d u : Nat} {m mg mb : Str → Option Value} {loose : List Str} {mean : ExcName → Option Value}
def tyBody : List Stmt := clsBody 18
abbrev tyE (L : Nat) : Env := envOf (Str.ofString "Type.__init__") { kind := .function, names := [(Str.ofString "self", .local), (Str.ofString "number", .local), (Str.ofString "form", .local), (Str.ofString "size", .local)], isGenerator := false, isCoroutine := false } L 384 (.ref 383)
theorem tySlf {A : Around} {x : Nat} (hm : m (Str.ofString "self") = some (.ref x)) : Slf w A E h₀ L m (tyE L) x := fun _ _ _ F h => nameX_L F hm h
theorem tyNm1 {A : Around} {v : Value} (hm : m (Str.ofString "number") = some v) (Q : Value → Shared → Prop) (s : Shared) (p : Pos) (F : Fr h₀ L s.heap m) (h : Q v s) : wpAny (model pg w) A (eval (.Name (Str.ofString "number") p) (tyE L)) Q E s := nameX_L F hm h
theorem tyNm2 {A : Around} {v : Value} (hm : m (Str.ofString "form") = some v) (Q : Value → Shared → Prop) (s : Shared) (p : Pos) (F : Fr h₀ L s.heap m) (h : Q v s) : wpAny (model pg w) A (eval (.Name (Str.ofString "form") p) (tyE L)) Q E s := nameX_L F hm h
theorem tyNm3 {A : Around} {v : Value} (hm : m (Str.ofString "size") = some v) (Q : Value → Shared → Prop) (s : Shared) (p : Pos) (F : Fr h₀ L s.heap m) (h : Q v s) : wpAny (model pg w) A (eval (.Name (Str.ofString "size") p) (tyE L)) Q E s := nameX_L F hm h
set_option maxRecDepth 100000 in
set_option maxHeartbeats 1000000 in
theorem type_init {A : Around} {Q : Flow → Shared → Prop} {x dx : Nat} {a1 a2 a3 : Value} {rest : List (Addr × Obj)} (X : (hd.heap_1 w.params).In h₀) (F : Fr h₀ L s.heap m)
    (hm0 : m (Str.ofString "self") = some (.ref x)) (hm1 : m (Str.ofString "number") = some a1) (hm2 : m (Str.ofString "form") = some a2) (hm3 : m (Str.ofString "size") = some a3)
    (N : News h₀ L s.heap ((x, instObj 387 dx) :: (dx, dictOf [] 0) :: rest)) (hl : ∀ p ∈ rest, @LT.lt Nat _ p.1 dx) (hx : @LT.lt Nat _ dx x)
    (h : ∀ h' tk es n, AllStr es → es.length ≤ 100 → Fr h₀ L h' m → News h₀ L h' ((x, instObj 387 dx) :: (dx, dictOf es n) :: rest) → Q .next { s with heap := h', toks := tk }) :
    wpAny (model pg w) A (execs tyBody (tyE L)) Q E s := by
  have fill : PySem.Challenge.rw_pb0351_01 = PySem.Challenge.rw_pb0351_01 ∧ Mine.hd.heap_1 = Mine.hd.heap_1 := by
    k_fill
    exact ⟨rfl, rfl⟩
  clear fill
  have cc : CC w 387 := ⟨by k_is, by k_is, by k_is⟩
  have G0 := Lg.mk F N hx (fun p hp => Nat.ne_of_lt (hl p hp)) (fun p hp => Nat.le_of_lt (Nat.lt_trans (hl p hp) hx)) (Nat.le_refl _) (.inl rfl) (ks := []) rfl
  refine wpAny_execs_cons (set_name (tySlf hm0) (tyNm1 hm1) X cc G0 (by k_is) (by kernel_rfl) (by kernel_rfl) fun j0 t0 u0 es1 he1 G1 => ?_)
  refine wpAny_execs_cons (set_name (tySlf hm0) (tyNm2 hm2) X cc G1 (by k_is) (by kernel_rfl) (by kernel_rfl) fun j1 t1 u1 es2 he2 G2 => ?_)
  refine wpAny_execs_cons (set_name (tySlf hm0) (tyNm3 hm3) X cc G2 (by k_is) (by kernel_rfl) (by kernel_rfl) fun j2 t2 u2 es3 he3 G3 => ?_)
  refine wpAny_execs_cons (set_none (tySlf hm0) X cc G3 (by k_is) (by kernel_rfl) (by kernel_rfl) fun j3 t3 u3 es4 he4 G4 => ?_)
  refine wpAny_execs_cons (set_int (tySlf hm0) X cc G4 (by k_is) (by kernel_rfl) (by kernel_rfl) fun j4 t4 w4 u4 es5 he5 G5 => ?_)
  refine wpAny_execs_cons (set_list (tySlf hm0) X cc G5 (by k_is) (by kernel_rfl) (by kernel_rfl) fun l5 j5 t5 u5 es6 R5 he6 hr5 lt5 G6 => ?_)
  refine wpAny_execs_cons (set_int (tySlf hm0) X cc G6 (by k_is) (by kernel_rfl) (by kernel_rfl) fun j6 t6 w6 u6 es7 he7 G7 => ?_)
  refine wpAny_execs_cons (set_list (tySlf hm0) X cc G7 (by k_is) (by kernel_rfl) (by kernel_rfl) fun l7 j7 t7 u7 es8 R7 he8 hr7 lt7 G8 => ?_)
  refine wpAny_execs_cons (set_str (tySlf hm0) X cc G8 (by k_is) (by kernel_rfl) (by kernel_rfl) fun j8 t8 w8 u8 es9 he9 G9 => ?_)
  refine wpAny_execs_cons (set_str (tySlf hm0) X cc G9 (by k_is) (by kernel_rfl) (by kernel_rfl) fun j9 t9 w9 u9 es10 he10 G10 => ?_)
  refine wpAny_execs_cons (set_list (tySlf hm0) X cc G10 (by k_is) (by kernel_rfl) (by kernel_rfl) fun l10 j10 t10 u10 es11 R10 he11 hr10 lt10 G11 => ?_)
  refine wpAny_execs_cons (set_int (tySlf hm0) X cc G11 (by k_is) (by kernel_rfl) (by kernel_rfl) fun j11 t11 w11 u11 es12 he12 G12 => ?_)
  refine wpAny_execs_nil ?_
  have N9 := G12.fN
  have K9 := congrArg List.length G12.fK
  rw [List.length_map] at K9
  rw [hr10] at N9
  rw [hr7] at N9
  rw [hr5] at N9
  exact h _ _ _ _ (AllStr.of G12.fK (by kernel_rfl)) (by rw [K9]; decide) G12.fF (News.sub N9 (List.forall_mem_cons.2 ⟨.head _, List.forall_mem_cons.2 ⟨.tail _ (.head _), fun p hp => .tail _ (.tail _ (.tail _ (.tail _ (.tail _ (hp)))))⟩⟩))
example : True := by
  (k_with "stopM15t1" => first | (with_reducible show wpAny _ _ (execs tyBody _) _ _ _) | (with_reducible show wpAny _ _ (execs (Stmt.Assign [Expr.Attribute (Expr.Name (Str.ofString "self") _) (Str.ofString "number") _] _ _ :: _) _) _ _ _))
  trivial
set_option maxRecDepth 100000 in
set_option maxHeartbeats 1000000 in
theorem type_new {Q : Value → Shared → Prop} {cnt sz : Int} {tc tf ts : Tok} {form : Str} {rest : List (Addr × Obj)} (B : Below A₀ base outer h₀) (X : (hd.heap_1 w.params).In h₀) (T : Top vw loose mean mg mb h₀) (hf : env.frame = some L) (hke : env.scope.kind = .function) (hdp : d < 910) (hu : u < 9100) (F : Fr h₀ L s.heap m)
    (N : News h₀ L s.heap rest)
    (h : ∀ h' tk x dx es n, AllStr es → es.length ≤ 100 → Fr h₀ L h' m → News h₀ L h' ((x, instObj 387 dx) :: (dx, dictOf es n) :: rest) → (∀ p ∈ rest, @LT.lt Nat _ p.1 dx) → @LT.lt Nat _ dx x → Q (.ref x) { s with heap := h', toks := tk }) :
    wpAny (model pg w) (AA d u (env :: outer)) (call (.ref 387) [.int cnt tc, .str form tf, .int sz ts] []) Q E s := by
  have fill : PySem.Challenge.rw_pb0351_01 = PySem.Challenge.rw_pb0351_01 ∧ Mine.hd.heap_1 = Mine.hd.heap_1 := by
    k_fill
    exact ⟨rfl, rfl⟩
  clear fill
  (repeat' ((fail_if_success k_extra "stopM15t1"); k_extra "kst"))
  rename ∀ p ∈ rest, p.1 < _ => hl1
  refine type_init (by assumption) (by assumption) rfl rfl rfl rfl (by assumption) hl1 (by assumption) fun h' tk es n hA hz F' N' => ?_
  rename Fr _ _ _ _ => FZ
  (repeat' ((fail_if_success k_extra "stopM15t1"); k_extra "kst"))
  rename News _ _ _ _ => NK
  exact h _ _ _ _ _ _ hA hz (by assumption) NK hl1 (by assumption)
end
end
end
example : True := by first | (w_top off; (fail_if_success walk1); trivial) | trivial
section
open PySem PySem.W PySem.Calls PyProof.Rows
section
theorem AllStr.len {es : List DictEntry} (h : es.length ≤ 101) {key : Str} {H : Int} {k v : Value} : (putL key H k v es).length ≤ 102 := Nat.le_trans (putL_len es) (Nat.succ_le_succ h)
section
example : True := by
  (k_with "k_get" => first | exact getL_hd | exact getL_hds)
  (k_with "=setAttr ref" => (k_here; k_dflt (refine' set_dict ?k1zw ?k2zw ?k3zw ?k4zw ?k5zw ?k6zw ?k7zw ?k8zw ?k9zw ?k10zw ?k11zw ?k12zw ?k13zw ?_; (case k1zw => k_asm); (case k2zw => k_asm); (case k3zw => k_asm); (case k4zw => k_inst); (case k5zw => exact rfl); (case k6zw => k_is); (case k7zw => k_is); (case k8zw => k_is); (case k9zw => k_is); (case k10zw => first | exact AllStr.get (by assumption) _ | exact AllStr.get (AllStr.put (by assumption)) _); (case k11zw => exact rfl); (case k12zw => k_upd); (case k13zw => first | exact Nat.le_trans (putL_len _) (Nat.le_trans (Nat.succ_le_succ (by assumption)) (by decide)) | exact Nat.le_trans (putL_len _) (Nat.le_trans (Nat.succ_le_succ (putL_len _)) (Nat.le_trans (Nat.succ_le_succ (Nat.succ_le_succ (by assumption))) (by decide)))); k_whole); intro h'zw' F'zw' N'zw'; (try k_sweep)))
  trivial
variable {w : World} {A₀ : Around} {E : Value → Shared → Prop} {s : Shared} {base h₀ : Heap} {env : Env} {outer : List Env} {L d u : Nat} {m mg mb : Str → Option Value} {loose : List Str} {mean : ExcName → Option Value}
example : True := by
  (k_with "stopM15n1" => (with_reducible show wpAny _ _ (call (Value.ref 387) _ _) _ _ _))
  trivial
set_option maxRecDepth 100000 in
set_option maxHeartbeats 1000000 in
theorem new_spec {Q : Value → Shared → Prop} {x dx n : Nat} {hh : Int} {tt tc : Tok} {cnt sz : Int} {form : Str} {tf ts : Tok} {es : List DictEntry} {rest : List (Addr × Obj)} (C : CT w A₀ base h₀ env outer L d u mg mb loose mean) (F : Fr h₀ L s.heap m)
    (N : News h₀ L s.heap ((x, instObj 423 dx) :: (dx, dictOf (⟨hh, .str "counter" tt, .int cnt tc⟩ :: es) n) :: rest)) (hx : dx < x) (hX : ∀ p ∈ rest, p.1 ≠ x) (hD : ∀ p ∈ rest, p.1 ≠ dx) (hes : es.length ≤ 100)
    (h : ∀ h' tk a t', Fr h₀ L h' m → News h₀ L h' ((x, instObj 423 dx) :: (dx, dictOf (⟨hh, .str "counter" tt, .int (cnt + 1) t'⟩ :: es) n) :: rest) → Q (.ref a) { s with heap := h', toks := tk }) :
    wpAny (model pg w) (AA d u (env :: outer)) (call (.ref 413) [.ref x, .str form tf, .int sz ts] []) Q E s := by
  have fill : PySem.Challenge.rw_pb0351_01 = PySem.Challenge.rw_pb0351_01 ∧ Mine.hd.heap_1 = Mine.hd.heap_1 := by
    k_fill
    exact ⟨rfl, rfl⟩
  clear fill
  obtain ⟨B, X, T, hf, hke, hdp, hu⟩ := C
  (repeat' ((fail_if_success k_extra "stopM15n1"); k_extra "kst"))
  (try dsimp only [List.cons_append, List.nil_append])
  rename Fr _ _ _ _ => FX
  rename News _ _ _ _ => NX
  refine type_new (by assumption) (by assumption) (by assumption) (by first | exact rfl | assumption) (by first | exact rfl | assumption) (by ((try simp only [depth_under_make, depth_under_kw, depth_in1, depth_deeper, depth_caller]); omega)) (by ((try simp only [units_in1, units_deeper, units_under_make, units_caller]); omega)) FX NX ?_
  intro h1 tk1 x1 d1 es1 n1 hA hz F1 N1 l1 l2
  have e1 : @LT.lt Nat _ x d1 := l1 _ (.head _)
  have e2 : @LT.lt Nat _ dx d1 := l1 _ (.tail _ (.head _))
  have e3 : @LT.lt Nat _ x x1 := Nat.lt_trans e1 l2
  have e4 : @LT.lt Nat _ dx x1 := Nat.lt_trans e2 l2
  have e5 : ∀ p ∈ rest, p.1 ≠ d1 := fun p hp => Nat.ne_of_lt (l1 p (.tail _ (.tail _ hp)))
  clear FX NX
  (repeat' ((fail_if_success k_extra "stopM15n1"); k_extra "kst"))
  rename News _ _ _ _ => NZ
  exact h _ _ _ _ (by assumption) (news_tail (news_tail NZ))
end
end
end
example : True := by
  k_with_none
  (k_with "omega" => first | (with_reducible assumption) | (with_reducible exact Nat.le_of_lt (by assumption)) | (with_reducible exact Nat.ne_of_lt (by assumption)) | (with_reducible exact Nat.ne_of_gt (by assumption)) | exact lt_ble (by with_reducible assumption) rfl | exact le_ble (by with_reducible assumption) rfl | exact le_ble (Nat.le_of_lt (by with_reducible assumption)) rfl | exact le_lt (by with_reducible assumption) rfl | exact lt_add 1 (by with_reducible assumption) rfl | exact Nat.le_of_ble_eq_true rfl)
  (k_with "k_mem" => first | exact List.Mem.head _ | with_reducible assumption | (refine' List.Mem.tail _ ?_; k_mem) | assumption)
  (k_with "k_enter" => first | (refine' code_def ?k1zw ?k2zw ?k3zw ?k4zw ?k5zw ?kAzw ?kFzw ?kKzw ?k6zw ?k7zw ?k8zw ?k9zw ?kBzw ?_ ?c2zw ?c3zw ?c4zw ?c5zw; (case kAzw => exact rfl); (case kFzw => first | exact rfl | assumption); (case kKzw => first | exact rfl | assumption); (case k1zw => k_asm); (case k2zw => k_asm); (case k3zw => k_asm); (case k4zw => k_asm); (case k5zw => k_asm); (case k6zw => k_is); (case k7zw => k_is); (case k8zw => k_room); (case k9zw => first | exact BindsTo.of_eq rfl | exact binds_K (by k_in) rfl (by k_is) rfl rfl rfl | fail "k_enter: no rule for these arguments"); (case c5zw => decide); (case kBzw => exact locs rfl); (case c2zw => exact rfl); (case c3zw => exact rfl); (case c4zw => exact rfl); k_whole; intro g'zw' L'zw' h'zw' FG'zw' F'zw' N'zw' B'zw' X'zw' T'zw'; (try dsimp only); (try k_lift B'zw'); (try k_fold)) | (refine' code_defC ?k1zw ?k2zw ?k3zw ?k4zw ?k5zw ?kAzw ?kFzw ?kKzw ?k6zw ?k7zw ?k8zw ?k9zw ?kBzw ?kDzw ?_ ?c2zw ?c3zw ?c4zw; (case kAzw => exact rfl); (case kFzw => first | exact rfl | assumption); (case kKzw => first | exact rfl | assumption); (case k1zw => k_asm); (case k2zw => k_asm); (case k3zw => k_asm); (case k4zw => k_asm); (case k5zw => k_asm); (case k6zw => k_is); (case k7zw => k_is); (case k8zw => k_room); (case k9zw => first | exact BindsTo.of_eq rfl | exact binds_K (by k_in) rfl (by k_is) rfl rfl rfl | fail "k_enter: no rule for these arguments"); (case kBzw => exact rfl); (case kDzw => decide +kernel); (case c2zw => exact rfl); (case c3zw => exact rfl); (case c4zw => exact rfl); k_whole; intro g'zw' L'zw' h'zw' tk'zw' cells'zw' FG'zw' F'zw' N'zw' Y'zw' B'zw' X'zw' T'zw' l1zw'; (try k_lt l1zw'); k_cells Y'zw'; (try simp only [List.cons_append, List.nil_append] at N'zw'); (try dsimp only); (try k_lift B'zw'); (try k_fold)))
  (k_with "k_room" => ((try simp only [depth_under_make, depth_under_kw, depth_in1, depth_deeper, depth_caller]); (have hrl : recursionLimit = 1000 := rfl); omega))
  (k_with "k_ne" => first | with_reducible assumption | (with_reducible exact Ne.symm (by assumption)) | (refine neN ?_; (try dsimp only); omega))
  (k_with "k_all" => first | with_reducible assumption | exact offAll (by assumption) (by simp [Kst.all]) (by (try dsimp only); omega))
  (k_with "k_put" => (refine' PutR.eq ?zzzw; (case zzzw => repeat (first | exact PutR.head (by rfl) | apply PutR.tail (by rfl)))))
  (k_with "=setAttr ref" => (k_here; k_dflt (refine' set_dict ?k1zw ?k2zw ?k3zw ?k4zw ?k5zw ?k6zw ?k7zw ?k8zw ?k9zw ?k10zw ?k11zw ?k12zw ?k13zw ?_; (case k1zw => k_asm); (case k2zw => k_asm); (case k3zw => k_asm); (case k4zw => k_inst); (case k5zw => exact rfl); (case k6zw => k_is); (case k7zw => k_is); (case k8zw => k_is); (case k9zw => k_is); (case k10zw => k_get); (case k11zw => k_put); (case k12zw => k_upd); (case k13zw => first | exact Nat.le_of_ble_eq_true rfl | ((try simp only [List.length_cons]); omega)); k_whole); intro h'zw' F'zw' N'zw'; (try dsimp only at N'zw'); (try k_sweep)))
  (k_with "=call builtin:len" => (k_here; (with_reducible show wpAny _ _ (call (Value.builtin "len") [Value.ref _]) _ _ _); k_dflt (refine len_L (by k_asm) (by k_mem) (by (try simp only [List.length_append, List.length_cons, List.length_nil]); rfl) (by omega) ?_)))
  (k_with "=call builtin:list.append" => (k_here; (with_reducible show wpAny _ _ (call (Value.builtin _) [Value.ref _, _]) _ _ _); k_dflt (refine' append_L ?k1zw ?k2zw ?k3zw ?zzw ?_; (case k1zw => k_asm); (case k2zw => k_asm); (case k3zw => k_upd); (case zzw => ((try simp only [List.length_append, List.length_cons, List.length_nil]); omega)); k_whole); intro h'zw' F'zw' N'zw'; (try dsimp only at N'zw'); (try k_sweep)))
  (k_with "=call builtin:list.pop" => (k_here; (with_reducible show wpAny _ _ (call (Value.builtin _) [Value.ref _]) _ _ _); k_dflt (refine' pop_last ?k1zw ?k2zw ?k3zw ?zzw ?_; (case k1zw => k_asm); (case k2zw => k_asm); (case k3zw => k_upd); (case zzw => ((try simp only [List.length_append, List.length_cons, List.length_nil]); omega)); k_whole); intro h'zw' F'zw' N'zw'; (try dsimp only at N'zw'); (try k_sweep)))
  (k_with "=call builtin:list.remove" => (k_here; (with_reducible show wpAny _ _ (call (Value.builtin _) [Value.ref _, Value.int _ _]) _ _ _); k_dflt (refine' remove_L ?k1zw ?k2zw ?hazw ?hbzw ?hkzw ?k3zw ?zzw ?_; (case k1zw => k_asm); (case k2zw => k_asm); (case k3zw => k_upd); (case hazw => k_asm); (case hbzw => k_asm); (case hkzw => k_asm); (case zzw => omega); k_whole); intro h'zw' F'zw' N'zw'; (try dsimp only at N'zw'); (try k_sweep)))
  (k_with "=getMethod ref" => (k_here; (with_reducible show wpAny _ _ (getMethod (Value.ref _) (PySem.Str.ofString "remove") _) _ _ _); k_dflt (refine' kl_method ?Nzw ?mzw PySem.F.slot_list_remove PySem.F.type_list_remove ?_; (case Nzw => k_asm); (case mzw => k_mem))))
  (k_with "=compareOp NotIn int ref" => (k_here; k_dflt (refine kdg_notin (knd := intKind _ _) (by k_asm) (by k_mem) (by k_asm) (by first | exact nm_ow (by assumption) | exact nm_sd (by assumption) | exact nm_mp (by assumption) | exact notmod (by omega)) (intKind_is _ _ _ _) _ (by first | assumption | rfl) ?_); (try dsimp only [Bool.not_true, Bool.not_false])))
  (k_with "=compareOp In int ref" => (k_here; k_dflt (refine kda_in (knd := intKind _ _) (by k_asm) (by k_mem) (by k_asm) (by first | exact nm_ow (by assumption) | exact nm_sd (by assumption) | exact nm_mp (by assumption) | exact notmod (by omega)) (intKind_is _ _ _ _) _ (by first | assumption | rfl) ?_)))
  (k_with "=subscriptTail" => (k_here; (with_reducible show wpAny _ _ (subscriptTail _ _ (Value.ref _) (Value.int _ _)) _ _ _); k_dflt (refine kdt_tail (knd := intKind _ _) (by k_asm) (by k_mem) (by k_asm) (kdt_getItem (knd := intKind _ _) (by k_asm) (by k_mem) (by k_asm) (intKind_is _ _ _ _) (by assumption) ?_))))
  (k_with "=subscriptTail Attribute Name Name ref int" => (k_here; k_dflt (refine kdt_tail (knd := intKind _ _) (by k_asm) (by k_mem) (by k_asm) (kdt_getItem (knd := intKind _ _) (by k_asm) (by k_mem) (by k_asm) (intKind_is _ _ _ _) (by assumption) ?_))))
  (k_with "=setItem ref int" => (k_here; k_dflt (refine' kda_set (knd := intKind _ _) ?Fzw ?Nzw ?Uzw ?dzw (intKind_is _ _ _ _) ?zzw ?_; (case Fzw => k_asm); (case Nzw => k_asm); (case Uzw => k_updF); (case dzw => k_asm); (case zzw => exact szOk (by omega))); intro h'zw' o'zw' F'zw' N'zw' hd'zw'; (try dsimp only at N'zw'); (try k_sweep)))
  (k_with "=delItem ref int" => (k_here; k_dflt (refine' kob_del (knd := intKind _ _) ?Fzw ?Nzw ?Uzw ?dzw (intKind_is _ _ _ _) ?lzw ?zzw ?_; (case Fzw => k_asm); (case Nzw => k_asm); (case Uzw => k_updF); (case dzw => k_asm); (case lzw => first | assumption | (simp only [*]; done)); (case zzw => exact szOk (by omega))); intro h'zw' o'zw' F'zw' N'zw' hd'zw'; (try dsimp only at N'zw'); (try k_sweep)))
  (k_with "=getMethod ref" => (k_here; (with_reducible show wpAny _ _ (getMethod (Value.ref _) (PySem.Str.ofString "append") _) _ _ _); k_dflt (refine' kl_method ?Nzw ?mzw PySem.F.slot_list_append PySem.F.type_list_append ?_; (case Nzw => k_asm); (case mzw => k_mem))))
  (k_with "=call ref" => (k_here; k_dflt (refine' call_cls ?k1zw ?k2zw ?k3zw ?k4zw ?k5zw ?k6zw ?_; (case k1zw => k_asm); (case k2zw => k_asm); (case k3zw => k_asm); (case k4zw => k_is); (case k5zw => k_is); (case k6zw => k_is); k_whole; intro x'zw' d'zw' h'zw' F'zw' N'zw' l1zw' l2zw'; (try k_lt l1zw'); (try k_lt2 l2zw'); (try k_sweep); k_enter)))
  (k_with "=call ref" => (k_here; k_dflt (refine wpAny_call ?_; k_enter)))
  (k_with "=getMethod ref" => (k_here; (with_reducible show wpAny _ _ (getMethod (Value.ref _) (Str.ofString "get") _) _ _ _); k_dflt (refine kdg_method (knd := PySem.intKind _ _) (by k_asm) (by k_mem) (by k_asm) ?_)))
  (k_with "=call builtin:dict.get" => (k_here; (with_reducible show wpAny _ _ (call (Value.builtin "dict.get") [Value.ref _, Value.int _ _, _]) _ _ _); k_dflt (refine kdg_get2 (knd := PySem.intKind _ _) (by k_asm) (by k_mem) (by k_asm) (by first | exact nm_ow (by assumption) | exact nm_sd (by assumption) | exact nm_mp (by assumption) | exact notmod (by omega)) (intKind_is _ _ _ _) _ rfl ?_)))
  (k_with "tb_rel" => exact ⟨by assumption, by assumption, by assumption, by first | exact rfl | assumption, by first | exact rfl | assumption, by first | exact lt_add 1 hd9 rfl | exact lt_add 2 hd9 rfl | exact lt_add 3 hd9 rfl | exact lt_add 4 hd9 rfl | exact lt_add 1 hd8 rfl | exact lt_add 2 hd8 rfl | exact lt_add 3 hd8 rfl | exact lt_add 4 hd8 rfl | ((try simp only [depth_under_make, depth_under_kw, depth_in1, depth_deeper, depth_caller]); omega) | decide, by first | exact lt_add 1 hu9 rfl | exact lt_add 2 hu9 rfl | exact lt_add 3 hu9 rfl | exact lt_add 4 hu9 rfl | exact lt_add 5 hu9 rfl | exact lt_add 6 hu9 rfl | exact lt_add 1 hu8 rfl | exact lt_add 2 hu8 rfl | exact lt_add 3 hu8 rfl | exact lt_add 4 hu8 rfl | exact lt_add 5 hu8 rfl | exact lt_add 6 hu8 rfl | ((try simp only [units_in1, units_deeper, units_under_make, units_caller, Around.deeper_units]); omega) | decide⟩)
  (k_with "k_upd" => first | exact upd_cd (by assumption) (by k_all) | exact upd_rw (by assumption) (by k_all) | exact upd_od (by assumption) (by k_all) | exact upd_ft (by assumption) (by k_all) | (refine' upd_core ?azw ?bzw; (case azw => exact off_all (by assumption) (Or.inr (by with_reducible assumption))); (case bzw => k_upd)))
  (k_with "k_updF" => first | exact upd_ow (by assumption) (by k_all) | exact upd_mp (by assumption) (by k_all) | exact upd_sd (by assumption) (by k_all))
  (k_with "k_room" => first | exact room 0 (a := 900) (by with_reducible assumption) rfl | exact room 1 (a := 900) (by with_reducible assumption) rfl | exact room 2 (a := 900) (by with_reducible assumption) rfl | exact room 3 (a := 900) (by with_reducible assumption) rfl | exact room 4 (a := 900) (by with_reducible assumption) rfl | exact room 5 (a := 900) (by with_reducible assumption) rfl | exact room 6 (a := 900) (by with_reducible assumption) rfl)
  (k_with "k_all" => (with_reducible refine List.forall_mem_cons.mpr ⟨Or.inr (by with_reducible assumption), ?_⟩; k_all))
  (k_with "kst" => first | (k_unfold; (try dsimp only)) | (k_end; wrow_close) | walk1 | (dsimp only; walk1) | (leave1; walk_say "STEP leave1"; try dsimp only) | fail "no step")
  trivial
example : True := by first | (w_top off; (fail_if_success walk1); trivial) | trivial
section
open PySem PySem.W PySem.Calls PyProof.Rows
section
section
example : True := by
  (k_with "k_get" => assumption)
  (k_with "tb_rel2" => exact ⟨by assumption, by assumption, by assumption, by first | exact rfl | assumption, by first | exact rfl | assumption, by ((try simp only [depth_under_make, depth_under_kw, depth_in1, depth_deeper, depth_caller]); omega), by ((try simp only [units_in1, units_deeper, units_under_make, units_caller]); omega)⟩)
  trivial
variable {w : World} {A₀ : Around} {E : Value → Shared → Prop} {s : Shared} {base h₀ : Heap} {env : Env} {outer : List Env} {L d u : Nat} {m mg mb : Str → Option Value} {loose : List Str} {mean : ExcName → Option Value}
abbrev tsE (L : Nat) : Env := envOf (Str.ofString "Types.__init__") { kind := .function, names := [(Str.ofString "self", .local)], isGenerator := false, isCoroutine := false } L 405 (.ref 404)
theorem tsSlf {A : Around} {x : Nat} (hm : m (Str.ofString "self") = some (.ref x)) : Slf w A E h₀ L m (tsE L) x := fun _ _ _ F h => nameX_L F hm h
def tsBody : List Stmt := clsBody 19
example : True := by
  (k_with "=eval Name" => (k_here; k_dflt (refine' nameX_L ?k1zw ?k2zw ?_ ?k3zw ?k4zw ?k5zw; (case k1zw => k_asm); (case k2zw => assumption); (case k3zw => rfl); (case k4zw => rfl); (case k5zw => decide); k_whole)))
  (k_with "stopM16n1" => first | (with_reducible show wpAny _ _ (call (Value.ref 413) _ _) _ _ _) | (with_reducible show wpAny _ _ (execs (Stmt.Assign [Expr.Attribute (Expr.Name (Str.ofString "self") _) (Str.ofString "counter") _] _ _ :: _) _) _ _ _))
  trivial
theorem drop3 {h₀ h : Heap} {L : Addr} {a b c : Addr × Obj} {r : List (Addr × Obj)} (N : News h₀ L h (a :: b :: c :: r)) : News h₀ L h (a :: b :: r) :=
  News.sub N (List.forall_mem_cons.mpr ⟨.head _, List.forall_mem_cons.mpr ⟨.tail _ (.head _), fun _ hp => .tail _ (.tail _ (.tail _ hp))⟩⟩)
set_option maxRecDepth 100000 in
set_option maxHeartbeats 1000000 in
theorem ty_stmt {Q' : Shared → Prop} {pl : Sem Bool} {x dx n b : Nat} {hh cnt sz : Int} {tt tc : Tok} {hp : Heap} {tk0 : Tok} {key form : Str} {es : List DictEntry} {ks : List (Option Str)} {rest : List (Addr × Obj)} {a1 b1 b3 b4 b5 : Pos} (C : CT w A₀ base h₀ (tsE L) outer L d u mg mb loose mean) (cc : CC w 423) (hm0 : m (Str.ofString "self") = some (.ref x))
    (G : Lg h₀ L m hp x 423 dx (⟨hh, .str "counter" tt, .int cnt tc⟩ :: es) n rest b ks) (hX : ∀ p ∈ rest, p.1 ≠ x) (hd8 : d < 850) (hu8 : u < 8500) (hn : okK (Str.ofString "new") ks = true) (ht : takerIn (hd.heap_1 w.params) 423 key = some none) (hk : okK key ks = true) (hz : Nat.ble ks.length 90 = true)
    (h : ∀ h' tk a t t' es', es' = es ++ [⟨PyData.keyHash w.params key, .str key t, .ref a⟩] → Lg h₀ L m h' x 423 dx (⟨hh, .str "counter" tt, .int (cnt + 1) t'⟩ :: es') (n + 1) rest b (ks ++ [some key]) → Q' { s with heap := h', toks := tk }) :
    wpAny (model pg w) (AA d u (tsE L :: outer)) (eval (.Name (Str.ofString "self") b1) (tsE L)) (fun ov s₁ => wpAny (model pg w) (AA d u (tsE L :: outer)) (getMethod ov (Str.ofString "new") pl) (fun fx s₂ => wpAny (model pg w) (AA d u (tsE L :: outer)) (callWith b5 fx.1 fx.2 (backTo b5 (starEach [.Constant (.str form) 0 b3, .Constant (.int sz) 0 b4] (tsE L))) []) (fun v s₃ => wpAny (model pg w) (AA d u (tsE L :: outer)) (eval (.Name (Str.ofString "self") a1) (tsE L)) (fun ov s₂ => wpAny (model pg w) (AA d u (tsE L :: outer)) (setAttr ov key v) (fun _ => Q') E s₂) E s₃) E s₂) E s₁) E { s with heap := hp, toks := tk0 } := by
  have fill : PySem.Challenge.rw_pb0351_01 = PySem.Challenge.rw_pb0351_01 ∧ Mine.hd.heap_1 = Mine.hd.heap_1 := by
    k_fill
    exact ⟨rfl, rfl⟩
  clear fill
  have hl : es.length ≤ 100 := by
    have := congrArg List.length G.fK
    rw [List.length_map, List.length_cons] at this
    have := Nat.le_of_ble_eq_true hz
    omega
  have hgn : getL (Str.ofString "new") (⟨hh, .str "counter" tt, .int cnt tc⟩ :: es) = some none := okK_get (okK_all G.fK hn)
  obtain ⟨B, X, T, hf, hke, hdp, hu⟩ := id C
  have F := G.fF
  have N := G.fN
  (repeat' ((fail_if_success k_extra "stopM16n1"); k_extra "kst"))
  (try dsimp only [List.cons_append, List.nil_append])
  refine new_spec C (by exact F) (by exact N) G.xd hX G.fR hl ?_
  intro h1 tk1 a t' F1 N1
  exact st_attr (s := s) (hp := h1) (tk0 := tk1) (tsSlf hm0) X cc ⟨F1, N1, G.xd, G.fR, G.fB, G.xb, G.fb, by have e := G.fK; rw [List.map_cons] at e ⊢; exact e⟩ ht hk (Nat.ble_eq.mpr (Nat.le_trans (Nat.le_of_ble_eq_true hz) (by decide))) fun h' tk es' he G' => by
    rw [List.cons_append] at he
    rw [he] at G'
    exact h h' _ a tk t' _ rfl G'
set_option maxRecDepth 100000 in
set_option maxHeartbeats 1000000 in
theorem types_init {Q : Flow → Shared → Prop} {x dx : Nat} {rest : List (Addr × Obj)} (C : CT w A₀ base h₀ (tsE L) outer L d u mg mb loose mean) (F : Fr h₀ L s.heap m) (hm0 : m (Str.ofString "self") = some (.ref x))
    (N : News h₀ L s.heap ((x, instObj 423 dx) :: (dx, dictOf [] 0) :: rest)) (hd8 : d < 840) (hu8 : u < 8400) (hl : ∀ p ∈ rest, @LT.lt Nat _ p.1 dx) (hx : @LT.lt Nat _ dx x)
    (h : ∀ h' tk a es n, Fr h₀ L h' m → News h₀ L h' ((x, instObj 423 dx) :: (dx, dictOf es n) :: rest) → getL (Str.ofString "integer") es = some (some (.ref a)) → Q .next { s with heap := h', toks := tk }) :
    wpAny (model pg w) (AA d u (tsE L :: outer)) (execs tsBody (tsE L)) Q E s := by
  have fill : PySem.Challenge.rw_pb0351_01 = PySem.Challenge.rw_pb0351_01 ∧ Mine.hd.heap_1 = Mine.hd.heap_1 := by
    k_fill
    exact ⟨rfl, rfl⟩
  clear fill
  have X := C.X
  have nl := TopRead.nolimit (topRead_of C.T)
  have cc : CC w 423 := ⟨by k_is, by k_is, by k_is⟩
  have G0 := Lg.mk F N hx (fun p hp => Nat.ne_of_lt (hl p hp)) (fun p hp => Nat.le_of_lt (Nat.lt_trans (hl p hp) hx)) (Nat.le_refl _) (.inl rfl) (ks := []) rfl
  refine wpAny_execs_cons (set_int (tsSlf hm0) X cc G0 (by k_is) (by kernel_rfl) (by kernel_rfl) fun j0 t0 w0 u0 es1 he1 G1 => ?_)
  refine wpAny_execs_cons (set_dict0 (tsSlf hm0) X nl cc G1 (by k_is) (by kernel_rfl) (by kernel_rfl) fun l1 o1 j1 t1 u1 es2 R1 he2 hr1 lt1 ho1 G2 => ?_)
  rw [he2, he1, hr1] at G2
  have hXR : ∀ p ∈ (l1, o1) :: rest, p.1 ≠ x := List.forall_mem_cons.mpr ⟨Nat.ne_of_gt lt1, fun p hp => Nat.ne_of_lt (Nat.lt_trans (hl p hp) hx)⟩
  refine wpAny_execs_cons (plainObj_wpAny_Assign_Attribute (MethodCall_ (ty_stmt (es := [_]) C cc hm0 (by exact G2) hXR (by omega) (by omega) (by kernel_rfl) (by k_is) (by kernel_rfl) (by kernel_rfl) fun j2 u2 a2 t2 v2 es3 he3 G3 => ?_)) rfl)
  refine wpAny_execs_cons (plainObj_wpAny_Assign_Attribute (MethodCall_ (ty_stmt C cc hm0 (by exact G3) hXR (by omega) (by omega) (by kernel_rfl) (by k_is) (by kernel_rfl) (by kernel_rfl) fun j3 u3 a3 t3 v3 es4 he4 G4 => ?_)) rfl)
  refine wpAny_execs_cons (plainObj_wpAny_Assign_Attribute (MethodCall_ (ty_stmt C cc hm0 (by exact G4) hXR (by omega) (by omega) (by kernel_rfl) (by k_is) (by kernel_rfl) (by kernel_rfl) fun j4 u4 a4 t4 v4 es5 he5 G5 => ?_)) rfl)
  refine wpAny_execs_cons (plainObj_wpAny_Assign_Attribute (MethodCall_ (ty_stmt C cc hm0 (by exact G5) hXR (by omega) (by omega) (by kernel_rfl) (by k_is) (by kernel_rfl) (by kernel_rfl) fun j5 u5 a5 t5 v5 es6 he6 G6 => ?_)) rfl)
  refine wpAny_execs_cons (plainObj_wpAny_Assign_Attribute (MethodCall_ (ty_stmt C cc hm0 (by exact G6) hXR (by omega) (by omega) (by kernel_rfl) (by k_is) (by kernel_rfl) (by kernel_rfl) fun j6 u6 a6 t6 v6 es7 he7 G7 => ?_)) rfl)
  refine wpAny_execs_cons (plainObj_wpAny_Assign_Attribute (MethodCall_ (ty_stmt C cc hm0 (by exact G7) hXR (by omega) (by omega) (by kernel_rfl) (by k_is) (by kernel_rfl) (by kernel_rfl) fun j7 u7 a7 t7 v7 es8 he8 G8 => ?_)) rfl)
  refine wpAny_execs_cons (plainObj_wpAny_Assign_Attribute (MethodCall_ (ty_stmt C cc hm0 (by exact G8) hXR (by omega) (by omega) (by kernel_rfl) (by k_is) (by kernel_rfl) (by kernel_rfl) fun j8 u8 a8 t8 v8 es9 he9 G9 => ?_)) rfl)
  refine wpAny_execs_nil ?_
  refine h _ _ a5 _ _ G9.fF (drop3 G9.fN) ?_
  rw [he9, he8, he7, he6, he5, he4, he3]; rfl
set_option maxRecDepth 100000 in
set_option maxHeartbeats 1000000 in
theorem types_spec {Q : Value → Shared → Prop} {rest : List (Addr × Obj)} (C : CT w A₀ base h₀ env outer L d u mg mb loose mean) (F : Fr h₀ L s.heap m)
    (N : News h₀ L s.heap rest) (hd8 : d < 800) (hu8 : u < 8000)
    (h : ∀ h' tk x dx a es n, Fr h₀ L h' m → News h₀ L h' ((x, instObj 423 dx) :: (dx, dictOf es n) :: rest) → getL (Str.ofString "integer") es = some (some (.ref a)) → (∀ p ∈ rest, @LT.lt Nat _ p.1 dx) → @LT.lt Nat _ dx x → Q (.ref x) { s with heap := h', toks := tk }) :
    wpAny (model pg w) (AA d u (env :: outer)) (call (.ref 423) [] []) Q E s := by
  have fill : PySem.Challenge.rw_pb0351_01 = PySem.Challenge.rw_pb0351_01 ∧ Mine.hd.heap_1 = Mine.hd.heap_1 := by
    k_fill
    exact ⟨rfl, rfl⟩
  clear fill
  obtain ⟨B, X, T, hf, hke, hdp, hu⟩ := C
  (repeat' ((fail_if_success k_extra "stopM16n1"); k_extra "kst"))
  rename ∀ p ∈ rest, p.1 < _ => hl1
  refine types_init (by (first | k_extra "tb_rel2" | k_extra "tb_rel")) (by assumption) rfl (by assumption) (by (try simp only [depth_under_make, depth_under_kw, depth_in1, depth_deeper, depth_caller]); omega) (by (try simp only [units_in1, units_deeper, units_under_make, units_caller]); omega) hl1 (by assumption) fun h' tk a es n F' N' hg => ?_
  rename Fr _ _ _ _ => FZ
  (repeat' ((fail_if_success k_extra "stopM16n1"); k_extra "kst"))
  rename News _ _ _ _ => NK
  exact h _ _ _ _ a _ _ (by assumption) NK hg hl1 (by assumption)
end
end
end
example : True := by first | (w_top off; (fail_if_success walk1); trivial) | trivial
section
open PySem PySem.W PySem.Calls PyProof.Rows
section
section
example : True := by
  (k_with "tb_rel2" => exact ⟨by assumption, by assumption, by assumption, by first | exact rfl | assumption, by first | exact rfl | assumption, by ((try simp only [depth_under_make, depth_under_kw, depth_in1, depth_deeper, depth_caller]); omega), by ((try simp only [units_in1, units_deeper, units_under_make, units_caller]); omega)⟩)
  (k_with "=eval Dict nil nil" => (k_here; k_dflt (refine' newDict_K ?k1zw ?k2zw ?k3zw ?_; (case k1zw => k_asm); (case k2zw => k_asm); (case k3zw => exact TopRead.nolimit (by k_asm)); k_whole); intro d'zw' h'zw' o'zw' F'zw' N'zw' l1zw' lo'zw' hs'zw' fs'zw' hi'zw' fi'zw'; (try k_lt l1zw'); (try k_sweep)))
  trivial
variable {w : World} {A₀ : Around} {E : Value → Shared → Prop} {s : Shared} {base h₀ : Heap} {env : Env} {outer : List Env} {L d u : Nat} {m mg mb : Str → Option Value} {loose : List Str} {mean : ExcName → Option Value}
  {K : Kst} {low lowest out : Int} {tl tw tu : Tok} {cN : Nat} {rV : List Value} {rN : Nat} {oO : Obj} {dV : List Value} {dN : Nat} {mO : Obj} {tV : List Value} {tN : Nat} {fV : List Value} {fN : Nat} {sO : Obj} {ext : List (Addr × Obj)}
local macro_rules | `(tactic| k_lt $h:ident) => `(tactic| (replace $h := allLt_of $h; simp only [AllLt, and_true] at $h:ident; (repeat (rcases $h:ident with ⟨_, $h:ident⟩))))
set_option maxRecDepth 100000 in
set_option maxHeartbeats 1000000 in
theorem cb_new {Q : Value → Shared → Prop} {rest : List (Addr × Obj)} (C : CT w A₀ base h₀ env outer L d u mg mb loose mean) (F : Fr h₀ L s.heap m)
    (N : News h₀ L s.heap rest) (hd8 : d < 850) (hu8 : u < 8500)
    (h : ∀ h' tk x d' l t, Fr h₀ L h' m → News h₀ L h' ((l, listOf #[] 0) :: (x, instObj 87 d') :: (d', dictOf [⟨PyData.keyHash w.params (Str.ofString "rows"), .str "rows" t, .ref l⟩] 1) :: rest) → (∀ p ∈ rest, @LT.lt Nat _ p.1 d') → @LT.lt Nat _ d' x → @LT.lt Nat _ x l → Q (.ref x) { s with heap := h', toks := tk }) :
    wpAny (model pg w) (AA d u (env :: outer)) (call (.ref 87) [] []) Q E s := by
  have fill : PySem.Challenge.rw_pb0351_01 = PySem.Challenge.rw_pb0351_01 ∧ Mine.hd.heap_1 = Mine.hd.heap_1 := by
    k_fill
    exact ⟨rfl, rfl⟩
  clear fill
  obtain ⟨B, X, T, hf, hke, hdp, hu⟩ := C
  (repeat' (k_extra "kst"))
  rename ∀ p ∈ rest, p.1 < _ => hl1
  exact h _ _ _ _ _ _ (by assumption) (by assumption) hl1 (by assumption) (by omega)
set_option maxRecDepth 100000 in
set_option maxHeartbeats 1000000 in
theorem rp_new {Q : Value → Shared → Prop} {cnt : Int} {tcn : Tok} {rest : List (Addr × Obj)} (C : CT w A₀ base h₀ env outer L d u mg mb loose mean) (F : Fr h₀ L s.heap m)
    (N : News h₀ L s.heap rest) (hd8 : d < 850) (hu8 : u < 8500)
    (h : ∀ h' tk x d' o a l t0 t1 t2 t3, Fr h₀ L h' m → News h₀ L h' ((l, listOf #[] 0) :: (a, o) :: (x, instObj 209 d') :: (d', dictOf [⟨PyData.keyHash w.params (Str.ofString "count"), .str "count" t0, .int cnt tcn⟩, ⟨PyData.keyHash w.params (Str.ofString "owner"), .str "owner" t1, .ref a⟩, ⟨PyData.keyHash w.params (Str.ofString "order"), .str "order" t2, .ref l⟩, ⟨PyData.keyHash w.params (Str.ofString "spiller"), .str "spiller" t3, .none⟩] 4) :: rest) → (∀ p ∈ rest, @LT.lt Nat _ p.1 d') → @LT.lt Nat _ d' x → @LT.lt Nat _ x a → @LT.lt Nat _ a l → o.IsDictOf (intK w) [] → Q (.ref x) { s with heap := h', toks := tk }) :
    wpAny (model pg w) (AA d u (env :: outer)) (call (.ref 209) [.int cnt tcn] []) Q E s := by
  have fill : PySem.Challenge.rw_pb0351_01 = PySem.Challenge.rw_pb0351_01 ∧ Mine.hd.heap_1 = Mine.hd.heap_1 := by
    k_fill
    exact ⟨rfl, rfl⟩
  clear fill
  obtain ⟨B, X, T, hf, hke, hdp, hu⟩ := C
  (repeat' (k_extra "kst"))
  rename ∀ p ∈ rest, p.1 < _ => hl1
  exact h _ _ _ _ _ _ _ _ _ _ _ (by assumption) (by assumption) hl1 (by assumption) (by omega) (by omega) (by assumption)
def cdBody : List Stmt := clsBody 13
abbrev iE (L : Nat) : Env := envOf (Str.ofString "Coder.__init__") { kind := .function, names := [(Str.ofString "self", .local), (Str.ofString "types", .local), (Str.ofString "module", .local), (Str.ofString "registers", .local), (Str.ofString "CodeBuffer", .globalImplicit), (Str.ofString "RegisterPool", .globalImplicit)], isGenerator := false, isCoroutine := false } L 227 (.ref 226)
theorem slfC {A : Around} {x : Nat} (hm : m (Str.ofString "self") = some (.ref x)) : Slf w A E h₀ L m (iE L) x := fun _ _ _ F h => nameX_L F hm h
theorem okK_look {key : Str} {es : List DictEntry} {H : Int} {t : Tok} {v : Value} (h : ∀ e ∈ es, e.key.isStr key = false ∧ e.refKey = false) : getL key (es ++ [⟨H, .str key t, v⟩]) = some (some v) := by
  unfold getL
  have h1 : (es ++ [(⟨H, .str key t, v⟩ : DictEntry)]).find? (·.key.isStr key) = some ⟨H, .str key t, v⟩ := by
    rw [List.find?_append, List.find?_eq_none.mpr fun e he => by rw [(h e he).1]; decide]
    rw [List.find?_cons_of_pos (by simp [Value.isStr])]
    rfl
  rw [h1]
theorem Lg.pushes {h h' : Heap} {x dx C n b l : Nat} {es : List DictEntry} {R : List (Addr × Obj)} {ks : List (Option Str)} (Y : List (Addr × Obj)) (G : Lg h₀ L m h x C dx es n R b ks) (F' : Fr h₀ L h' m) (N' : News h₀ L h' (Y ++ (x, instObj C dx) :: (dx, dictOf es n) :: R)) (hY : ∀ p ∈ Y, @LT.lt Nat _ dx p.1 ∧ @LE.le Nat _ p.1 l) (hl : ∃ o, (l, o) ∈ Y) (bl : b ≤ l) :
    Lg h₀ L m h' x C dx es n (Y ++ R) l ks := by
  refine ⟨F', News.sub N' ?_, G.xd, ?_, ?_, Nat.le_trans G.xb bl, ?_, G.fK⟩
  · intro p hp
    simp only [List.mem_append, List.mem_cons] at hp ⊢
    rcases hp with h | h | h | h
    · exact .inr (.inl h)
    · exact .inr (.inr (.inl h))
    · exact .inl h
    · exact .inr (.inr (.inr h))
  · intro p hp
    rcases List.mem_append.mp hp with h | h
    · exact Nat.ne_of_gt (hY p h).1
    · exact G.fR p h
  · intro p hp
    rcases List.mem_append.mp hp with h | h
    · exact (hY p h).2
    · exact Nat.le_trans (G.fB p h) bl
  · obtain ⟨o, ho⟩ := hl
    exact .inr ⟨o, List.mem_append_left _ ho⟩
theorem mk_core2 {h₀ h : Heap} {L : Addr} {dx x bd b rw pd p ow od sp q5 q6 q7 mp q9 q10 q11 rt ft sd bn pn cN : Nat} {h0 h1 h2 h3 h4 h5 h6 h7 h8 h9 h10 h11 h12 h13 h14 h15 h16 h17 h18 h19 h20 h21 h22 h23 h24 i12 : Int} {t0 t1 t2 t3 t4 t5 t6 t7 t8 t9 t10 t11 t12 t13 t14 t15 t16 t17 t18 t19 t20 t21 t22 t23 t24 t30 u12 tl tw tu : Tok} {v0 v1 : Value} {cnt low lowest out : Int} {oO o5 o8 o10 o18 : Obj} {es1 es2 es3 es4 es5 es6 es7 es8 es9 es10 es11 es12 es13 es14 es15 es16 es17 es18 es19 es20 : List DictEntry} {rest R5 R6 R7 R8 R9 R10 R11 R14 R17 R18 : List (Addr × Obj)}
    (N : News h₀ L h ((x, instObj 351 dx) :: (dx, dictOf es20 cN) :: R18))
    (he1 : es1 = [] ++ [⟨h0, .str "types" t0, v0⟩]) (he2 : es2 = es1 ++ [⟨h1, .str "module" t1, v1⟩]) (he3 : es3 = es2 ++ [⟨h2, .str "buf" t2, .ref b⟩]) (he4 : es4 = es3 ++ [⟨h3, .str "pool" t3, .ref p⟩]) (he5 : es5 = es4 ++ [⟨h4, .str "data" t4, .none⟩]) (he6 : es6 = es5 ++ [⟨h5, .str "keys" t5, .ref q5⟩]) (he7 : es7 = es6 ++ [⟨h6, .str "imports" t6, .ref q6⟩]) (he8 : es8 = es7 ++ [⟨h7, .str "fixups" t7, .ref q7⟩]) (he9 : es9 = es8 ++ [⟨h8, .str "maps" t8, .ref mp⟩]) (he10 : es10 = es9 ++ [⟨h9, .str "entries" t9, .ref q9⟩]) (he11 : es11 = es10 ++ [⟨h10, .str "starts" t10, .ref q10⟩]) (he12 : es12 = es11 ++ [⟨h11, .str "calls" t11, .ref q11⟩]) (he13 : es13 = es12 ++ [⟨h12, .str "level" t12, .int i12 u12⟩]) (he14 : es14 = es13 ++ [⟨h13, .str "proc" t13, .none⟩]) (he15 : es15 = es14 ++ [⟨h14, .str "roots" t14, .ref rt⟩]) (he16 : es16 = es15 ++ [⟨h15, .str "low" t15, .int low tl⟩]) (he17 : es17 = es16 ++ [⟨h16, .str "lowest" t16, .int lowest tw⟩]) (he18 : es18 = es17 ++ [⟨h17, .str "free_temps" t17, .ref ft⟩]) (he19 : es19 = es18 ++ [⟨h18, .str "spilled" t18, .ref sd⟩]) (he20 : es20 = es19 ++ [⟨h19, .str "out_words" t19, .int out tu⟩]) (hr5 : R5 = (q5, o5) :: ((sp, methodObj (.ref 277) (.ref x)) :: (od, listOf #[] 0) :: (ow, oO) :: (p, instObj 209 pd) :: (pd, dictOf [⟨h20, .str "count" t20, .int cnt t30⟩, ⟨h21, .str "owner" t21, .ref ow⟩, ⟨h22, .str "order" t22, .ref od⟩, ⟨h23, .str "spiller" t23, .ref sp⟩] pn) :: (rw, listOf #[] 0) :: (b, instObj 87 bd) :: (bd, dictOf [⟨h24, .str "rows" t24, .ref rw⟩] bn) :: rest)) (hr6 : R6 = (q6, listOf #[] 0) :: R5) (hr7 : R7 = (q7, listOf #[] 0) :: R6) (hr8 : R8 = (mp, o8) :: R7) (hr9 : R9 = (q9, listOf #[] 0) :: R8) (hr10 : R10 = (q10, o10) :: R9) (hr11 : R11 = (q11, listOf #[] 0) :: R10) (hr14 : R14 = (rt, listOf #[] 0) :: R11) (hr17 : R17 = (ft, listOf #[] 0) :: R14) (hr18 : R18 = (sd, o18) :: R17)
    (a1 : dx < x) (a2 : x < bd) (a3 : bd < b) (a4 : b < rw) (a5 : rw < pd) (a6 : pd < p) (a7 : p < ow) (a8 : ow < od) (a9 : od < sp) (a10 : sp < mp) (a11 : mp < rt) (a12 : rt < ft) (a13 : ft < sd) (hb : 100 < dx) (hn : 4 ≤ cnt ∧ cnt ≤ 7)
    {P : Prop} (H : ∀ K : Kst, K.Ok → K.c = x → K.cd = dx → K.cnt = cnt → News h₀ L h (coreL K (cdE K low tl lowest tw out tu) cN [] 0 oO [] 0 o8 [] 0 [] 0 o18 rest) → P) : P := by
  rw [hr18, hr17, hr14, hr11, hr10, hr9, hr8, hr7, hr6, hr5, he20, he19, he18, he17, he16, he15, he14, he13, he12, he11, he10, he9, he8, he7, he6, he5, he4, he3, he2, he1] at N
  simp only [List.nil_append, List.cons_append] at N
  refine H ⟨dx, x, bd, b, rw, pd, p, ow, od, sp, mp, rt, ft, sd, fun i => [h0, h1, h2, h3, h4, h5, h6, h7, h8, h9, h10, h11, h12, h13, h14, h15, h16, h17, h18, h19, h20, h21, h22, h23, h24].getD i 0, fun i => [t0, t1, t2, t3, t4, t5, t6, t7, t8, t9, t10, t11, t12, t13, t14, t15, t16, t17, t18, t19, t20, t21, t22, t23, t24, t24, t24, t24, t24, t24, t30].getD i 0, fun i => [v0, v1, .none, .none, .none, .ref q5, .ref q6, .ref q7, .none, .ref q9, .ref q10, .ref q11, .int i12 u12, .none, .none, .none, .none, .none, .none, .none].getD i .none, cnt, bn, pn⟩ ⟨a1, a2, a3, a4, a5, a6, a7, a8, a9, a10, a11, a12, a13, hb, hn.1, hn.2⟩ rfl rfl rfl ?_
  refine News.sub N ?_
  refine List.forall_mem_cons.2 ⟨.head _, ?_⟩
  refine List.forall_mem_cons.2 ⟨.tail _ (.head _), ?_⟩
  refine List.forall_mem_cons.2 ⟨.tail _ (.tail _ (.tail _ (.tail _ (.tail _ (.tail _ (.tail _ (.tail _ (.tail _ (.tail _ (.tail _ (.tail _ (.tail _ (.tail _ (.tail _ (.tail _ (.tail _ (.tail _ (.head _)))))))))))))))))), ?_⟩
  refine List.forall_mem_cons.2 ⟨.tail _ (.tail _ (.tail _ (.tail _ (.tail _ (.tail _ (.tail _ (.tail _ (.tail _ (.tail _ (.tail _ (.tail _ (.tail _ (.tail _ (.tail _ (.tail _ (.tail _ (.tail _ (.tail _ (.head _))))))))))))))))))), ?_⟩
  refine List.forall_mem_cons.2 ⟨.tail _ (.tail _ (.tail _ (.tail _ (.tail _ (.tail _ (.tail _ (.tail _ (.tail _ (.tail _ (.tail _ (.tail _ (.tail _ (.tail _ (.tail _ (.tail _ (.tail _ (.head _))))))))))))))))), ?_⟩
  refine List.forall_mem_cons.2 ⟨.tail _ (.tail _ (.tail _ (.tail _ (.tail _ (.tail _ (.tail _ (.tail _ (.tail _ (.tail _ (.tail _ (.tail _ (.tail _ (.tail _ (.tail _ (.head _))))))))))))))), ?_⟩
  refine List.forall_mem_cons.2 ⟨.tail _ (.tail _ (.tail _ (.tail _ (.tail _ (.tail _ (.tail _ (.tail _ (.tail _ (.tail _ (.tail _ (.tail _ (.tail _ (.tail _ (.tail _ (.tail _ (.head _)))))))))))))))), ?_⟩
  refine List.forall_mem_cons.2 ⟨.tail _ (.tail _ (.tail _ (.tail _ (.tail _ (.tail _ (.tail _ (.tail _ (.tail _ (.tail _ (.tail _ (.tail _ (.tail _ (.tail _ (.head _)))))))))))))), ?_⟩
  refine List.forall_mem_cons.2 ⟨.tail _ (.tail _ (.tail _ (.tail _ (.tail _ (.tail _ (.tail _ (.tail _ (.tail _ (.tail _ (.tail _ (.tail _ (.tail _ (.head _))))))))))))), ?_⟩
  refine List.forall_mem_cons.2 ⟨.tail _ (.tail _ (.tail _ (.tail _ (.tail _ (.tail _ (.tail _ (.tail _ (.tail _ (.tail _ (.tail _ (.tail _ (.head _)))))))))))), ?_⟩
  refine List.forall_mem_cons.2 ⟨.tail _ (.tail _ (.tail _ (.tail _ (.tail _ (.tail _ (.tail _ (.tail _ (.head _)))))))), ?_⟩
  refine List.forall_mem_cons.2 ⟨.tail _ (.tail _ (.tail _ (.tail _ (.head _)))), ?_⟩
  refine List.forall_mem_cons.2 ⟨.tail _ (.tail _ (.tail _ (.head _))), ?_⟩
  refine List.forall_mem_cons.2 ⟨.tail _ (.tail _ (.head _)), ?_⟩
  exact fun p hp => .tail _ (.tail _ (.tail _ (.tail _ (.tail _ (.tail _ (.tail _ (.tail _ (.tail _ (.tail _ (.tail _ (.tail _ (.tail _ (.tail _ (.tail _ (.tail _ (.tail _ (.tail _ (.tail _ (.tail _ (hp))))))))))))))))))))
example : True := by
  (k_with "k_get" => assumption)
  (k_with "=eval Name" => (k_here; k_dflt (refine' nameX_L ?k1zw ?k2zw ?_ ?k3zw ?k4zw ?k5zw; (case k1zw => k_asm); (case k2zw => assumption); (case k3zw => rfl); (case k4zw => rfl); (case k5zw => decide); k_whole)))
  (k_with "stopM17a1" => first | (with_reducible show wpAny _ _ (exec _ _) _ _ _) | (with_reducible show wpAny _ _ (eval (Expr.Name (Str.ofString "self") _) _) _ _ _) | (with_reducible show wpAny _ _ (call (Value.ref 87) _ _) _ _ _) | (with_reducible show wpAny _ _ (call (Value.ref 209) _ _) _ _ _))
  trivial
set_option maxRecDepth 100000 in
set_option maxHeartbeats 1000000 in
theorem coder_init {Q : Flow → Shared → Prop} {tx x dx : Nat} {mo : Str} {tm tcn : Tok} {cnt : Int} {rest : List (Addr × Obj)} (C : CT w A₀ base h₀ (iE L) outer L d u mg mb loose mean) (F : Fr h₀ L s.heap m)
    (hm1 : m (Str.ofString "self") = some (.ref x)) (hm2 : m (Str.ofString "types") = some (.ref tx)) (hm3 : m (Str.ofString "module") = some (.str mo tm)) (hm4 : m (Str.ofString "registers") = some (.int cnt tcn))
    (N : News h₀ L s.heap ((x, instObj 351 dx) :: (dx, dictOf [] 0) :: rest)) (hd8 : d < 840) (hu8 : u < 8400) (hn : 4 ≤ cnt ∧ cnt ≤ 7) (hb : 100 < dx) (hl : ∀ p ∈ rest, @LT.lt Nat _ p.1 dx) (hx : @LT.lt Nat _ dx x)
    (h : ∀ h' tk K cN tl tw tu oO mO sO, K.Ok → K.cnt = cnt → oO.IsDictOf (intK w) [] → mO.IsDictOf (intK w) [] → sO.IsDictOf (intK w) [] → K.cd = dx → K.c = x → Fr h₀ L h' m →
      News h₀ L h' (coreL K (cdE K (-8) tl (-8) tw 0 tu) cN [] 0 oO [] 0 mO [] 0 [] 0 sO rest) → Q .next { s with heap := h', toks := tk }) :
    wpAny (model pg w) (AA d u (iE L :: outer)) (execs cdBody (iE L)) Q E s := by
  have fill : PySem.Challenge.rw_pb0351_01 = PySem.Challenge.rw_pb0351_01 ∧ Mine.hd.heap_1 = Mine.hd.heap_1 := by
    k_fill
    exact ⟨rfl, rfl⟩
  clear fill
  have B := C.B
  have X := C.X
  have T := C.T
  have hf := C.f
  have hke := C.k
  have hdp := C.d
  have hu := C.u
  have nl := TopRead.nolimit (topRead_of T)
  have cc : CC w 351 := ⟨by k_is, by k_is, by k_is⟩
  have G0 := Lg.mk F N hx (fun p hp => Nat.ne_of_lt (hl p hp)) (fun p hp => Nat.le_of_lt (Nat.lt_trans (hl p hp) hx)) (Nat.le_refl _) (.inl rfl) (ks := []) rfl
  refine wpAny_execs_cons (plainObj_wpAny_Assign_Attribute (nameX_L F hm2 (st_attr (slfC hm1) X cc G0 (by k_is) (by kernel_rfl) (by kernel_rfl) fun h1 t1 es1 he1 G1 => ?_)) rfl)
  refine wpAny_execs_cons (plainObj_wpAny_Assign_Attribute (nameX_L G1.fF hm3 (st_attr (slfC hm1) X cc G1 (by k_is) (by kernel_rfl) (by kernel_rfl) fun h2 t2 es2 he2 G2 => ?_)) rfl)
  refine wpAny_execs_cons (plainObj_wpAny_Assign_Attribute ?_ rfl)
  have F2 := G2.fF
  have N2 := G2.fN
  (repeat' ((fail_if_success k_extra "stopM17a1"); k_extra "kst"))
  (try dsimp only [List.cons_append, List.nil_append])
  refine cb_new C (by exact G2.fF) (by exact G2.fN) (by omega) (by omega) fun h3 u3 b bd rw tr F3 N3 l1 l2 l3 => ?_
  have a1 : @LT.lt Nat _ x bd := l1 _ (.head _)
  have d6 : @LT.lt Nat _ dx bd := Nat.lt_trans hx a1
  have d5 : @LT.lt Nat _ dx b := Nat.lt_trans d6 l2
  have d4 : @LT.lt Nat _ dx rw := Nat.lt_trans d5 l3
  have f1 : @LT.lt Nat _ bd rw := Nat.lt_trans l2 l3
  have f2 : @LT.lt Nat _ x rw := Nat.lt_trans a1 f1
  have G3 := G2.pushes [_, _, _] F3 N3 (List.forall_mem_cons.mpr ⟨⟨by omega, Nat.le_refl _⟩, List.forall_mem_cons.mpr ⟨⟨by omega, by omega⟩, List.forall_mem_cons.mpr ⟨⟨by omega, by omega⟩, List.forall_mem_nil _⟩⟩⟩) ⟨_, .head _⟩ (by omega)
  refine st_attr (slfC hm1) X cc G3 (by k_is) (by kernel_rfl) (by kernel_rfl) fun h4 t3 es3 he3 G4 => ?_
  refine wpAny_execs_cons (plainObj_wpAny_Assign_Attribute ?_ rfl)
  have F4 := G4.fF
  have N4 := G4.fN
  (repeat' ((fail_if_success k_extra "stopM17a1"); k_extra "kst"))
  (try dsimp only [List.cons_append, List.nil_append])
  refine rp_new C (by exact F4) (by exact N4) (by omega) (by omega) fun h5 u5 p pd ow oO od tp0 tp1 tp2 tp3 F5 N5 m1 m2 m3 m4 hoO => ?_
  have a2 : @LT.lt Nat _ x pd := m1 _ (.head _)
  have a3 : @LT.lt Nat _ rw pd := m1 _ (.tail _ (.tail _ (.head _)))
  have b2 : @LT.lt Nat _ dx pd := Nat.lt_trans hx a2
  have d3 : @LT.lt Nat _ dx p := Nat.lt_trans b2 m2
  have d2 : @LT.lt Nat _ dx oO := Nat.lt_trans d3 m3
  have d1 : @LT.lt Nat _ dx od := Nat.lt_trans d2 m4
  have f3 : @LT.lt Nat _ p od := Nat.lt_trans m3 m4
  have b4 : @LT.lt Nat _ pd od := Nat.lt_trans m2 f3
  have f4 : @LT.lt Nat _ rw od := Nat.lt_trans a3 b4
  have G5 := G4.pushes [_, _, _, _] F5 N5 (List.forall_mem_cons.mpr ⟨⟨by omega, Nat.le_refl _⟩, List.forall_mem_cons.mpr ⟨⟨by omega, by omega⟩, List.forall_mem_cons.mpr ⟨⟨by omega, by omega⟩, List.forall_mem_cons.mpr ⟨⟨by omega, by omega⟩, List.forall_mem_nil _⟩⟩⟩⟩) ⟨_, .head _⟩ (by omega)
  refine st_attr (slfC hm1) X cc G5 (by k_is) (by kernel_rfl) (by kernel_rfl) fun h6 t4 es4 he4 G6 => ?_
  refine wpAny_execs_cons (plainObj_wpAny_Assign_Attribute ?_ rfl)
  have hg : getL (Str.ofString "pool") es4 = some (some (.ref p)) := by rw [he4]; exact okK_look (okK_all G5.fK (by kernel_rfl))
  have hgs : getL (Str.ofString "spill") es4 = some none := okK_get (okK_all G6.fK (by kernel_rfl))
  have F6 := G6.fF
  have N6 := G6.fN
  clear G0 G1 G2 G3 G4 G5 F2 N2 F4 N4 F3 N3 F5 N5 N F
  simp only [List.cons_append, List.nil_append] at N6
  have b1 : ∀ q ∈ rest, q.1 ≠ pd := fun q hq => Nat.ne_of_lt (Nat.lt_trans (hl q hq) (Nat.lt_trans hx a2))
  have b3 : @LT.lt Nat _ pd oO := Nat.lt_trans m2 m3
  have b5 : @LT.lt Nat _ b pd := Nat.lt_trans l3 a3
  have b6 : @LT.lt Nat _ bd pd := Nat.lt_trans l2 b5
  (repeat' ((fail_if_success k_extra "stopM17a1"); k_extra "kst"))
  refine nameX_L F6 hm1 ?_
  (repeat' ((fail_if_success k_extra "stopM17a1"); k_extra "kst"))
  refine nameX_L (by assumption) hm1 ?_
  (repeat' ((fail_if_success k_extra "stopM17a1"); k_extra "kst"))
  rename Fr _ _ _ _ => FZ
  rename News _ _ _ _ => NZ
  have G7 := Lg.ofN FZ NZ hx (by assumption)
    (List.forall_mem_cons.mpr ⟨Nat.ne_of_gt d1, List.forall_mem_cons.mpr ⟨Nat.ne_of_gt d2, List.forall_mem_cons.mpr ⟨Nat.ne_of_gt d3, List.forall_mem_cons.mpr ⟨Nat.ne_of_gt b2, List.forall_mem_cons.mpr ⟨Nat.ne_of_gt d4, List.forall_mem_cons.mpr ⟨Nat.ne_of_gt d5, List.forall_mem_cons.mpr ⟨Nat.ne_of_gt d6, fun q hq => Nat.ne_of_lt (hl q hq)⟩⟩⟩⟩⟩⟩⟩)
    (List.forall_mem_cons.mpr ⟨Nat.le_of_lt (by assumption), List.forall_mem_cons.mpr ⟨Nat.le_of_lt (by assumption), List.forall_mem_cons.mpr ⟨Nat.le_of_lt (by assumption), List.forall_mem_cons.mpr ⟨Nat.le_of_lt (by assumption), List.forall_mem_cons.mpr ⟨Nat.le_of_lt (by assumption), List.forall_mem_cons.mpr ⟨Nat.le_of_lt (by assumption), List.forall_mem_cons.mpr ⟨Nat.le_of_lt (by assumption), fun q hq => Nat.le_of_lt (Nat.lt_trans (hl q hq) (by assumption))⟩⟩⟩⟩⟩⟩⟩) G6.fK
  refine set_none (slfC hm1) X cc G7 (by k_is) (by kernel_rfl) (by kernel_rfl) fun j4 t4 u4 es5 he5 G8 => ?_
  refine wpAny_execs_cons (set_dict0 (slfC hm1) X nl cc G8 (by k_is) (by kernel_rfl) (by kernel_rfl) fun l5 o5 j5 t5 u5 es6 R5 he6 hr5 lt5 ho5 G9 => ?_)
  refine wpAny_execs_cons (set_list (slfC hm1) X cc G9 (by k_is) (by kernel_rfl) (by kernel_rfl) fun l6 j6 t6 u6 es7 R6 he7 hr6 lt6 G10 => ?_)
  refine wpAny_execs_cons (set_list (slfC hm1) X cc G10 (by k_is) (by kernel_rfl) (by kernel_rfl) fun l7 j7 t7 u7 es8 R7 he8 hr7 lt7 G11 => ?_)
  refine wpAny_execs_cons (set_dict0 (slfC hm1) X nl cc G11 (by k_is) (by kernel_rfl) (by kernel_rfl) fun l8 o8 j8 t8 u8 es9 R8 he9 hr8 lt8 ho8 G12 => ?_)
  refine wpAny_execs_cons (set_list (slfC hm1) X cc G12 (by k_is) (by kernel_rfl) (by kernel_rfl) fun l9 j9 t9 u9 es10 R9 he10 hr9 lt9 G13 => ?_)
  refine wpAny_execs_cons (set_dict0 (slfC hm1) X nl cc G13 (by k_is) (by kernel_rfl) (by kernel_rfl) fun l10 o10 j10 t10 u10 es11 R10 he11 hr10 lt10 ho10 G14 => ?_)
  refine wpAny_execs_cons (set_list (slfC hm1) X cc G14 (by k_is) (by kernel_rfl) (by kernel_rfl) fun l11 j11 t11 u11 es12 R11 he12 hr11 lt11 G15 => ?_)
  refine wpAny_execs_cons (set_int (slfC hm1) X cc G15 (by k_is) (by kernel_rfl) (by kernel_rfl) fun j12 t12 w12 u12 es13 he13 G16 => ?_)
  refine wpAny_execs_cons (set_none (slfC hm1) X cc G16 (by k_is) (by kernel_rfl) (by kernel_rfl) fun j13 t13 u13 es14 he14 G17 => ?_)
  refine wpAny_execs_cons (set_list (slfC hm1) X cc G17 (by k_is) (by kernel_rfl) (by kernel_rfl) fun l14 j14 t14 u14 es15 R14 he15 hr14 lt14 G18 => ?_)
  refine wpAny_execs_cons (set_neg (slfC hm1) X cc G18 (by k_is) (by kernel_rfl) (by kernel_rfl) fun j15 t15 w15 u15 es16 he16 G19 => ?_)
  refine wpAny_execs_cons (set_neg (slfC hm1) X cc G19 (by k_is) (by kernel_rfl) (by kernel_rfl) fun j16 t16 w16 u16 es17 he17 G20 => ?_)
  refine wpAny_execs_cons (set_list (slfC hm1) X cc G20 (by k_is) (by kernel_rfl) (by kernel_rfl) fun l17 j17 t17 u17 es18 R17 he18 hr17 lt17 G21 => ?_)
  refine wpAny_execs_cons (set_dict0 (slfC hm1) X nl cc G21 (by k_is) (by kernel_rfl) (by kernel_rfl) fun l18 o18 j18 t18 u18 es19 R18 he19 hr18 lt18 ho18 G22 => ?_)
  refine wpAny_execs_cons (set_int (slfC hm1) X cc G22 (by k_is) (by kernel_rfl) (by kernel_rfl) fun j19 t19 w19 u19 es20 he20 G23 => ?_)
  refine wpAny_execs_nil ?_
  refine mk_core2 G23.fN he1 he2 he3 he4 he5 he6 he7 he8 he9 he10 he11 he12 he13 he14 he15 he16 he17 he18 he19 he20 hr5 hr6 hr7 hr8 hr9 hr10 hr11 hr14 hr17 hr18 hx a1 l2 l3 a3 m2 m3 m4 (by assumption) (Nat.lt_trans lt5 (Nat.lt_trans lt6 (Nat.lt_trans lt7 lt8))) (Nat.lt_trans lt9 (Nat.lt_trans lt10 (Nat.lt_trans lt11 lt14))) lt17 lt18 hb hn fun K O e1 e2 e3 NK => ?_
  exact h _ _ K _ _ _ _ _ _ _ O e3 hoO ho8 ho18 e2 e1 G23.fF NK
end
end
end
example : True := by first | (w_top off; (fail_if_success walk1); trivial) | trivial
section
open PySem PySem.W PySem.Calls PyProof.Rows
section
section
example : True := by
  (k_with "tb_rel2" => exact ⟨by assumption, by assumption, by assumption, by first | exact rfl | assumption, by first | exact rfl | assumption, by ((try simp only [depth_under_make, depth_under_kw, depth_in1, depth_deeper, depth_caller]); omega), by ((try simp only [units_in1, units_deeper, units_under_make, units_caller]); omega)⟩)
  (k_with "=eval Dict nil nil" => (k_here; k_dflt (refine' newDict_K ?k1zw ?k2zw ?k3zw ?_; (case k1zw => k_asm); (case k2zw => k_asm); (case k3zw => exact TopRead.nolimit (by k_asm)); k_whole); intro d'zw' h'zw' o'zw' F'zw' N'zw' l1zw' lo'zw' hs'zw' fs'zw' hi'zw' fi'zw'; (try k_lt l1zw'); (try k_sweep)))
  trivial
variable {w : World} {A₀ : Around} {E : Value → Shared → Prop} {s : Shared} {base h₀ : Heap} {env : Env} {outer : List Env} {L d u : Nat} {m mg mb : Str → Option Value} {loose : List Str} {mean : ExcName → Option Value}
  {K : Kst} {low lowest out : Int} {tl tw tu : Tok} {cN : Nat} {rV : List Value} {rN : Nat} {oO : Obj} {dV : List Value} {dN : Nat} {mO : Obj} {tV : List Value} {tN : Nat} {fV : List Value} {fN : Nat} {sO : Obj} {ext : List (Addr × Obj)}
example : True := by
  (k_with "stopM171" => (with_reducible show wpAny _ _ (execs _ _) _ _ _))
  trivial
set_option maxRecDepth 100000 in
set_option maxHeartbeats 1000000 in
theorem coder_spec {Q : Value → Shared → Prop} {tx : Nat} {mo : Str} {tm tcn : Tok} {cnt : Int} {rest : List (Addr × Obj)} (C : CT w A₀ base h₀ env outer L d u mg mb loose mean) (F : Fr h₀ L s.heap m)
    (N : News h₀ L s.heap rest) (hd8 : d < 800) (hu8 : u < 8000) (hn : 4 ≤ cnt ∧ cnt ≤ 7) (hb : ∃ p ∈ rest, @LT.lt Nat _ 100 p.1)
    (h : ∀ h' tk K cN tl tw tu oO mO sO, K.Ok → K.cnt = cnt → oO.IsDictOf (intK w) [] → mO.IsDictOf (intK w) [] → sO.IsDictOf (intK w) [] → (∀ p ∈ rest, @LT.lt Nat _ p.1 K.cd) → Fr h₀ L h' m →
      News h₀ L h' (coreL K (cdE K (-8) tl (-8) tw 0 tu) cN [] 0 oO [] 0 mO [] 0 [] 0 sO rest) → Q (.ref K.c) { s with heap := h', toks := tk }) :
    wpAny (model pg w) (AA d u (env :: outer)) (call (.ref 351) [.ref tx, .str mo tm, .int cnt tcn] []) Q E s := by
  have fill : PySem.Challenge.rw_pb0351_01 = PySem.Challenge.rw_pb0351_01 ∧ Mine.hd.heap_1 = Mine.hd.heap_1 := by
    k_fill
    exact ⟨rfl, rfl⟩
  clear fill
  obtain ⟨B, X, T, hf, hke, hdp, hu⟩ := C
  (repeat' ((fail_if_success k_extra "stopM171"); k_extra "kst"))
  rename ∀ p ∈ rest, p.1 < _ => hl1
  obtain ⟨q, hq, hqb⟩ := hb
  have hl2 : @LT.lt Nat _ q.1 _ := hl1 q hq
  refine coder_init (by (first | k_extra "tb_rel2" | k_extra "tb_rel")) (by assumption) rfl rfl rfl rfl (by assumption) (by (try simp only [depth_under_make, depth_under_kw, depth_in1, depth_deeper, depth_caller]); omega) (by (try simp only [units_in1, units_deeper, units_under_make, units_caller]); omega) hn (Nat.lt_trans hqb hl2) hl1 (by assumption) fun h' tk K cN tl tw tu oO mO sO O ec ho1 ho2 ho3 e1 e2 F' N' => ?_
  rename Fr _ _ _ _ => FZ
  (repeat' ((fail_if_success k_extra "stopM171"); k_extra "kst"))
  trace_state
  rename News _ _ _ _ => NK
  rw [← e2]
  exact h _ _ K _ _ _ _ _ _ _ O ec ho1 ho2 ho3 (by rw [e1]; exact hl1) (by assumption) NK
end
end
end
example : True := by first | (w_top off; (fail_if_success walk1); trivial) | trivial
section
open PySem PySem.W PySem.Calls PyProof.Rows
section
section
example : True := by
  (k_with "tb_rel2" => exact ⟨by assumption, by assumption, by assumption, by first | exact rfl | assumption, by first | exact rfl | assumption, by ((try simp only [depth_under_make, depth_under_kw, depth_in1, depth_deeper, depth_caller]); omega), by ((try simp only [units_in1, units_deeper, units_under_make, units_caller]); omega)⟩)
  (k_with "=eval Dict nil nil" => (k_here; k_dflt (refine' newDict_K ?k1zw ?k2zw ?k3zw ?_; (case k1zw => k_asm); (case k2zw => k_asm); (case k3zw => exact TopRead.nolimit (by k_asm)); k_whole); intro d'zw' h'zw' o'zw' F'zw' N'zw' l1zw' lo'zw' hs'zw' fs'zw' hi'zw' fi'zw'; (try k_lt l1zw'); (try k_sweep)))
  trivial
variable {w : World} {A₀ : Around} {E : Value → Shared → Prop} {s : Shared} {base h₀ : Heap} {env : Env} {outer : List Env} {L d u : Nat} {m mg mb : Str → Option Value} {loose : List Str} {mean : ExcName → Option Value}
  {K : Kst} {low lowest out : Int} {tl tw tu : Tok} {cN : Nat} {rV : List Value} {rN : Nat} {oO : Obj} {dV : List Value} {dN : Nat} {mO : Obj} {tV : List Value} {tN : Nat} {fV : List Value} {fN : Nat} {sO : Obj} {ext : List (Addr × Obj)}
example : True := by
  (k_with "stopM181" => (with_reducible show wpAny _ _ (call (Value.type "list") _ _) _ _ _))
  trivial
theorem mk_enter {h₀ h : Heap} {L : Addr} {K : Kst} {rt ft sd cN rN dN tN fN tN' fN' : Nat} {tl tw tu : Tok} {v12 v13 : Value} {low lowest out : Int} {oO mO sO sO' : Obj} {rV dV tV fV tV' fV' : List Value} {rest : List (Addr × Obj)} (O : K.Ok)
    (N : News h₀ L h ((sd, sO) :: (ft, listOf fV.toArray fN) :: (rt, listOf tV.toArray tN) :: coreL K [⟨K.h 0, .str "types" (K.t 0), K.v 0⟩, ⟨K.h 1, .str "module" (K.t 1), K.v 1⟩, ⟨K.h 2, .str "buf" (K.t 2), .ref K.b⟩, ⟨K.h 3, .str "pool" (K.t 3), .ref K.p⟩, ⟨K.h 4, .str "data" (K.t 4), K.v 4⟩, ⟨K.h 5, .str "keys" (K.t 5), K.v 5⟩, ⟨K.h 6, .str "imports" (K.t 6), K.v 6⟩, ⟨K.h 7, .str "fixups" (K.t 7), K.v 7⟩, ⟨K.h 8, .str "maps" (K.t 8), .ref K.mp⟩, ⟨K.h 9, .str "entries" (K.t 9), K.v 9⟩, ⟨K.h 10, .str "starts" (K.t 10), K.v 10⟩, ⟨K.h 11, .str "calls" (K.t 11), K.v 11⟩, ⟨K.h 12, .str "level" (K.t 12), v12⟩, ⟨K.h 13, .str "proc" (K.t 13), v13⟩, ⟨K.h 14, .str "roots" (K.t 14), .ref rt⟩, ⟨K.h 15, .str "low" (K.t 15), .int low tl⟩, ⟨K.h 16, .str "lowest" (K.t 16), .int lowest tw⟩, ⟨K.h 17, .str "free_temps" (K.t 17), .ref ft⟩, ⟨K.h 18, .str "spilled" (K.t 18), .ref sd⟩, ⟨K.h 19, .str "out_words" (K.t 19), .int out tu⟩] cN rV rN oO dV dN mO tV' tN' fV' fN' sO' rest)) (g1 : @LT.lt Nat _ K.mp rt) (g2 : @LT.lt Nat _ rt ft) (g3 : @LT.lt Nat _ ft sd) :
    ∃ K' : Kst, K'.Ok ∧ K'.c = K.c ∧ K'.cd = K.cd ∧ K'.mp = K.mp ∧ K'.rt = rt ∧ K'.sd = sd ∧ K'.cnt = K.cnt ∧ News h₀ L h (coreL K' (cdE K' low tl lowest tw out tu) cN rV rN oO dV dN mO tV tN fV fN sO rest) := by
  refine ⟨{ K with rt := rt, ft := ft, sd := sd, v := fun i => cond (Nat.beq i 12) v12 (cond (Nat.beq i 13) v13 (K.v i)) }, ⟨O.o1, O.o2, O.o3, O.o4, O.o5, O.o6, O.o7, O.o8, O.o9, O.o10, g1, g2, g3, O.big, O.c0, O.c1⟩, rfl, rfl, rfl, rfl, rfl, rfl, ?_⟩
  refine News.sub N ?_
  refine List.forall_mem_cons.2 ⟨.tail _ (.tail _ (.tail _ (.head _))), ?_⟩
  refine List.forall_mem_cons.2 ⟨.tail _ (.tail _ (.tail _ (.tail _ (.head _)))), ?_⟩
  refine List.forall_mem_cons.2 ⟨.tail _ (.tail _ (.tail _ (.tail _ (.tail _ (.head _))))), ?_⟩
  refine List.forall_mem_cons.2 ⟨.tail _ (.tail _ (.tail _ (.tail _ (.tail _ (.tail _ (.head _)))))), ?_⟩
  refine List.forall_mem_cons.2 ⟨.tail _ (.tail _ (.tail _ (.tail _ (.tail _ (.tail _ (.tail _ (.head _))))))), ?_⟩
  refine List.forall_mem_cons.2 ⟨.tail _ (.tail _ (.tail _ (.tail _ (.tail _ (.tail _ (.tail _ (.tail _ (.head _)))))))), ?_⟩
  refine List.forall_mem_cons.2 ⟨.tail _ (.tail _ (.tail _ (.tail _ (.tail _ (.tail _ (.tail _ (.tail _ (.tail _ (.head _))))))))), ?_⟩
  refine List.forall_mem_cons.2 ⟨.tail _ (.tail _ (.tail _ (.tail _ (.tail _ (.tail _ (.tail _ (.tail _ (.tail _ (.tail _ (.head _)))))))))), ?_⟩
  refine List.forall_mem_cons.2 ⟨.tail _ (.tail _ (.tail _ (.tail _ (.tail _ (.tail _ (.tail _ (.tail _ (.tail _ (.tail _ (.tail _ (.head _))))))))))), ?_⟩
  refine List.forall_mem_cons.2 ⟨.tail _ (.tail _ (.tail _ (.tail _ (.tail _ (.tail _ (.tail _ (.tail _ (.tail _ (.tail _ (.tail _ (.tail _ (.head _)))))))))))), ?_⟩
  refine List.forall_mem_cons.2 ⟨.tail _ (.tail _ (.tail _ (.tail _ (.tail _ (.tail _ (.tail _ (.tail _ (.tail _ (.tail _ (.tail _ (.tail _ (.tail _ (.head _))))))))))))), ?_⟩
  refine List.forall_mem_cons.2 ⟨.tail _ (.tail _ (.head _)), ?_⟩
  refine List.forall_mem_cons.2 ⟨.tail _ (.head _), ?_⟩
  refine List.forall_mem_cons.2 ⟨.head _, ?_⟩
  exact fun p hp => .tail _ (.tail _ (.tail _ (.tail _ (.tail _ (.tail _ (.tail _ (.tail _ (.tail _ (.tail _ (.tail _ (.tail _ (.tail _ (.tail _ (.tail _ (.tail _ (.tail _ (hp)))))))))))))))))
set_option maxRecDepth 100000 in
set_option maxHeartbeats 1000000 in
theorem enter_spec {Q : Value → Shared → Prop} {ra n : Nat} {vs : List Value} {t1 t2 : Tok} {rest : List (Addr × Obj)} (C : CT w A₀ base h₀ env outer L d u mg mb loose mean) (F : Fr h₀ L s.heap m) (O : K.Ok)
    (N : News h₀ L s.heap (coreL K (cdE K low tl lowest tw out tu) cN rV rN oO dV dN mO tV tN fV fN sO rest)) (hd8 : d < 800) (hu8 : u < 8000) (hR : ∀ p ∈ rest, Off K p.1) (hr : (ra, listOf vs.toArray n) ∈ rest) (hz : vs.length ≤ 10)
    (h : ∀ h' tk K' cN' tl tw tu sO' tN', K'.Ok → K'.c = K.c → K'.cd = K.cd → K'.mp = K.mp → K'.cnt = K.cnt → sO'.IsDictOf (intK w) [] → (∀ p ∈ rest, @LT.lt Nat _ p.1 K'.rt) → Fr h₀ L h' m →
      News h₀ L h' (coreL K' (cdE K' (-16) tl (-16) tw 0 tu) cN' rV rN oO dV dN mO vs tN' [] 0 sO' rest) → Q .none { s with heap := h', toks := tk }) :
    wpAny (model pg w) (AA d u (env :: outer)) (call (.ref 234) [.ref K.c, .none, .int 0 t1, .int 8 t2, .ref ra] []) Q E s := by
  have fill : PySem.Challenge.rw_pb0351_01 = PySem.Challenge.rw_pb0351_01 ∧ Mine.hd.heap_1 = Mine.hd.heap_1 := by
    k_fill
    exact ⟨rfl, rfl⟩
  clear fill
  obtain ⟨B, X, T, hf, hke, hdp, hu⟩ := C
  have hO := kOk_facts O
  (repeat' ((fail_if_success k_extra "stopM181"); k_extra "kst"))
  rename News _ _ _ _ => NX
  rename Fr _ _ _ _ => FX
  refine list_copyK FX NX (News.isList NX (by k_mem)) ?_ (by rw [List.size_toArray]; exact szOk (by omega))
  intro of oc h1 F1 N1 lof
  clear NX FX
  have lof2 := lof
  k_lt lof
  (repeat' ((fail_if_success k_extra "stopM181"); k_extra "kst"))
  rename News _ _ _ _ => NZ
  refine hide fun Pz kPz => ?_
  obtain ⟨K', O', e1, e2, e3, e4, e5, e6, NK⟩ := mk_enter O NZ (by omega) (by omega) (by omega)
  refine kPz ?_
  clear kPz
  exact h _ _ K' _ _ _ _ _ _ O' e1 e2 e3 e6 (by assumption) (by rw [e4]; exact fun p hp => lof2 p (.tail _ (.tail _ (.tail _ (.tail _ (.tail _ (.tail _ (.tail _ (.tail _ (.tail _ (.tail _ (.tail _ (.tail _ (.tail _ (.tail _ (hp)))))))))))))))) (by assumption) NK
end
end
end
example : True := by first | (w_top off; (fail_if_success walk1); trivial) | trivial
section
open PySem PySem.W PySem.Calls PyProof.Rows
section
section
variable {prog : Program} {w : World} {A : Around} {E : Value → Shared → Prop} {s : Shared} {h₀ : Heap} {L : Addr} {m : Str → Option Value} {news : List (Addr × Obj)}
theorem tail_temp {value slice : Expr} {o i : Value} {T id : String} {ops : List Value} {Q : Value → Shared → Prop} (hT : s.TypeIs o T)
    (hl : typeLookup (.type T) "__getitem__" = pure (some (.builtin id))) (h : wpAny (model prog w) A (getItem o i) Q E s)
    (hs : subscripted slice false o i = operate ops (getItem o i)) :
    wpAny (model prog w) A (subscriptTail value slice o i) Q E s := by
  unfold subscriptTail
  refine wpAny_bind ?_
  rw [getitemInPython_of_ne hT.not_modules]
  refine wpAny_bind (wpAny_specialOf hT hl ?_)
  have fin : wpAny (model prog w) A (subscripted slice false o i) (fun r s₃ => wpAny (model prog w) A (letTemporaryGo value o r >>= fun _ => pure r) Q E s₃) E s := by
    rw [hs]
    exact wpAny_operating (wpAny_mono h (fun r s₃ h₃ => wpAny_bind (wpAny_letTemporaryGo (wpAny_pure h₃))) fun _ _ x => x)
  first
    | exact wpAny_pure (wpAny_bind fin)
    | exact wpAny_bind (wpAny_pure (wpAny_bind fin))
    | exact wpAny_bind fin
theorem slice_temp {value slice : Expr} {l : Addr} {items : Array Value} {vl vu : Value} {lo hi : Option Int} {Q : Value → Shared → Prop}
    (F : Fr h₀ L s.heap m) (N : News h₀ L s.heap news) (hl : s.heap.IsList l items) (pl : IsPart vl lo) (pu : IsPart vu hi)
    (h : ∀ D h', Fr h₀ L h' m → News h₀ L h' ((D, listOf (slicePick items lo hi none) 0) :: news) → (∀ p ∈ news, p.1 < D) → Q (.ref D) { s with heap := h' })
    (hs : subscripted slice false (.ref l) (.ref s.heap.objs.size) = operate [.ref s.heap.objs.size, .ref l] (getItem (.ref l) (.ref s.heap.objs.size)))
    (hsz : items.size ≤ sizeLine) :
    wpAny (model prog w) A (subscriptTail value slice (.ref l) (.ref s.heap.objs.size)) Q E { s with heap := s.heap.push { cls := .type "slice", data := .fields #[vl, vu, .none] } } := by
  refine tail_temp (Heap.IsList.typeIs (s := { s with heap := s.heap.push { cls := .type "slice", data := .fields #[vl, vu, .none] } }) (hl.push _)) list_getitem_lookup
    (wpAny_getItem_list_slice (hl.push _) (Heap.IsSliceOf.new ..) pl pu .none (by simp) ?_ hsz) hs
  have N1 := News.push (F.push { cls := .type "slice", data := .fields #[vl, vu, .none] }) (N.grown fun _ _ e => Heap.get?_push_of_some _ e) { cls := .type "list", data := .seq (slicePick items lo hi none) }
  rw [Heap.size_push] at N1
  show Q (.ref (s.heap.push _).objs.size) _
  rw [Heap.size_push]
  exact h _ _ ((F.push _).push _) N1 fun p hp => Nat.lt_succ_of_lt (Heap.lt_size (N p hp).1)
end
end
end
example : True := by
  k_with_none
  (k_with "omega" => first | (with_reducible assumption) | (with_reducible exact Nat.le_of_lt (by assumption)) | (with_reducible exact Nat.ne_of_lt (by assumption)) | (with_reducible exact Nat.ne_of_gt (by assumption)) | exact lt_ble (by with_reducible assumption) rfl | exact le_ble (by with_reducible assumption) rfl | exact le_ble (Nat.le_of_lt (by with_reducible assumption)) rfl | exact le_lt (by with_reducible assumption) rfl | exact lt_add 1 (by with_reducible assumption) rfl | exact Nat.le_of_ble_eq_true rfl)
  (k_with "k_mem" => first | exact List.Mem.head _ | with_reducible assumption | (refine' List.Mem.tail _ ?_; k_mem) | assumption)
  (k_with "k_enter" => first | (refine' code_def ?k1zw ?k2zw ?k3zw ?k4zw ?k5zw ?kAzw ?kFzw ?kKzw ?k6zw ?k7zw ?k8zw ?k9zw ?kBzw ?_ ?c2zw ?c3zw ?c4zw ?c5zw; (case kAzw => exact rfl); (case kFzw => first | exact rfl | assumption); (case kKzw => first | exact rfl | assumption); (case k1zw => k_asm); (case k2zw => k_asm); (case k3zw => k_asm); (case k4zw => k_asm); (case k5zw => k_asm); (case k6zw => k_is); (case k7zw => k_is); (case k8zw => k_room); (case k9zw => first | exact BindsTo.of_eq rfl | exact binds_K (by k_in) rfl (by k_is) rfl rfl rfl | fail "k_enter: no rule for these arguments"); (case c5zw => decide); (case kBzw => exact locs rfl); (case c2zw => exact rfl); (case c3zw => exact rfl); (case c4zw => exact rfl); k_whole; intro g'zw' L'zw' h'zw' FG'zw' F'zw' N'zw' B'zw' X'zw' T'zw'; (try dsimp only); (try k_lift B'zw'); (try k_fold)) | (refine' code_defC ?k1zw ?k2zw ?k3zw ?k4zw ?k5zw ?kAzw ?kFzw ?kKzw ?k6zw ?k7zw ?k8zw ?k9zw ?kBzw ?kDzw ?_ ?c2zw ?c3zw ?c4zw; (case kAzw => exact rfl); (case kFzw => first | exact rfl | assumption); (case kKzw => first | exact rfl | assumption); (case k1zw => k_asm); (case k2zw => k_asm); (case k3zw => k_asm); (case k4zw => k_asm); (case k5zw => k_asm); (case k6zw => k_is); (case k7zw => k_is); (case k8zw => k_room); (case k9zw => first | exact BindsTo.of_eq rfl | exact binds_K (by k_in) rfl (by k_is) rfl rfl rfl | fail "k_enter: no rule for these arguments"); (case kBzw => exact rfl); (case kDzw => decide +kernel); (case c2zw => exact rfl); (case c3zw => exact rfl); (case c4zw => exact rfl); k_whole; intro g'zw' L'zw' h'zw' tk'zw' cells'zw' FG'zw' F'zw' N'zw' Y'zw' B'zw' X'zw' T'zw' l1zw'; (try k_lt l1zw'); k_cells Y'zw'; (try simp only [List.cons_append, List.nil_append] at N'zw'); (try dsimp only); (try k_lift B'zw'); (try k_fold)))
  (k_with "k_room" => ((try simp only [depth_under_make, depth_under_kw, depth_in1, depth_deeper, depth_caller]); (have hrl : recursionLimit = 1000 := rfl); omega))
  (k_with "k_ne" => first | with_reducible assumption | (with_reducible exact Ne.symm (by assumption)) | (refine neN ?_; (try dsimp only); omega))
  (k_with "k_all" => first | with_reducible assumption | exact offAll (by assumption) (by simp [Kst.all]) (by (try dsimp only); omega))
  (k_with "k_put" => (refine' PutR.eq ?zzzw; (case zzzw => repeat (first | exact PutR.head (by rfl) | apply PutR.tail (by rfl)))))
  (k_with "=setAttr ref" => (k_here; k_dflt (refine' set_dict ?k1zw ?k2zw ?k3zw ?k4zw ?k5zw ?k6zw ?k7zw ?k8zw ?k9zw ?k10zw ?k11zw ?k12zw ?k13zw ?_; (case k1zw => k_asm); (case k2zw => k_asm); (case k3zw => k_asm); (case k4zw => k_inst); (case k5zw => exact rfl); (case k6zw => k_is); (case k7zw => k_is); (case k8zw => k_is); (case k9zw => k_is); (case k10zw => k_get); (case k11zw => k_put); (case k12zw => k_upd); (case k13zw => first | exact Nat.le_of_ble_eq_true rfl | ((try simp only [List.length_cons]); omega)); k_whole); intro h'zw' F'zw' N'zw'; (try dsimp only at N'zw'); (try k_sweep)))
  (k_with "=call builtin:len" => (k_here; (with_reducible show wpAny _ _ (call (Value.builtin "len") [Value.ref _]) _ _ _); k_dflt (refine len_L (by k_asm) (by k_mem) (by (try simp only [List.length_append, List.length_cons, List.length_nil]); rfl) (by omega) ?_)))
  (k_with "=call builtin:list.append" => (k_here; (with_reducible show wpAny _ _ (call (Value.builtin _) [Value.ref _, _]) _ _ _); k_dflt (refine' append_L ?k1zw ?k2zw ?k3zw ?zzw ?_; (case k1zw => k_asm); (case k2zw => k_asm); (case k3zw => k_upd); (case zzw => ((try simp only [List.length_append, List.length_cons, List.length_nil]); omega)); k_whole); intro h'zw' F'zw' N'zw'; (try dsimp only at N'zw'); (try k_sweep)))
  (k_with "=call builtin:list.pop" => (k_here; (with_reducible show wpAny _ _ (call (Value.builtin _) [Value.ref _]) _ _ _); k_dflt (refine' pop_last ?k1zw ?k2zw ?k3zw ?zzw ?_; (case k1zw => k_asm); (case k2zw => k_asm); (case k3zw => k_upd); (case zzw => ((try simp only [List.length_append, List.length_cons, List.length_nil]); omega)); k_whole); intro h'zw' F'zw' N'zw'; (try dsimp only at N'zw'); (try k_sweep)))
  (k_with "=call builtin:list.remove" => (k_here; (with_reducible show wpAny _ _ (call (Value.builtin _) [Value.ref _, Value.int _ _]) _ _ _); k_dflt (refine' remove_L ?k1zw ?k2zw ?hazw ?hbzw ?hkzw ?k3zw ?zzw ?_; (case k1zw => k_asm); (case k2zw => k_asm); (case k3zw => k_upd); (case hazw => k_asm); (case hbzw => k_asm); (case hkzw => k_asm); (case zzw => omega); k_whole); intro h'zw' F'zw' N'zw'; (try dsimp only at N'zw'); (try k_sweep)))
  (k_with "=getMethod ref" => (k_here; (with_reducible show wpAny _ _ (getMethod (Value.ref _) (PySem.Str.ofString "remove") _) _ _ _); k_dflt (refine' kl_method ?Nzw ?mzw PySem.F.slot_list_remove PySem.F.type_list_remove ?_; (case Nzw => k_asm); (case mzw => k_mem))))
  (k_with "=compareOp NotIn int ref" => (k_here; k_dflt (refine kdg_notin (knd := intKind _ _) (by k_asm) (by k_mem) (by k_asm) (by first | exact nm_ow (by assumption) | exact nm_sd (by assumption) | exact nm_mp (by assumption) | exact notmod (by omega)) (intKind_is _ _ _ _) _ (by first | assumption | rfl) ?_); (try dsimp only [Bool.not_true, Bool.not_false])))
  (k_with "=compareOp In int ref" => (k_here; k_dflt (refine kda_in (knd := intKind _ _) (by k_asm) (by k_mem) (by k_asm) (by first | exact nm_ow (by assumption) | exact nm_sd (by assumption) | exact nm_mp (by assumption) | exact notmod (by omega)) (intKind_is _ _ _ _) _ (by first | assumption | rfl) ?_)))
  (k_with "=subscriptTail" => (k_here; (with_reducible show wpAny _ _ (subscriptTail _ _ (Value.ref _) (Value.int _ _)) _ _ _); k_dflt (refine kdt_tail (knd := intKind _ _) (by k_asm) (by k_mem) (by k_asm) (kdt_getItem (knd := intKind _ _) (by k_asm) (by k_mem) (by k_asm) (intKind_is _ _ _ _) (by assumption) ?_))))
  (k_with "=subscriptTail Attribute Name Name ref int" => (k_here; k_dflt (refine kdt_tail (knd := intKind _ _) (by k_asm) (by k_mem) (by k_asm) (kdt_getItem (knd := intKind _ _) (by k_asm) (by k_mem) (by k_asm) (intKind_is _ _ _ _) (by assumption) ?_))))
  (k_with "=setItem ref int" => (k_here; k_dflt (refine' kda_set (knd := intKind _ _) ?Fzw ?Nzw ?Uzw ?dzw (intKind_is _ _ _ _) ?zzw ?_; (case Fzw => k_asm); (case Nzw => k_asm); (case Uzw => k_updF); (case dzw => k_asm); (case zzw => exact szOk (by omega))); intro h'zw' o'zw' F'zw' N'zw' hd'zw'; (try dsimp only at N'zw'); (try k_sweep)))
  (k_with "=delItem ref int" => (k_here; k_dflt (refine' kob_del (knd := intKind _ _) ?Fzw ?Nzw ?Uzw ?dzw (intKind_is _ _ _ _) ?lzw ?zzw ?_; (case Fzw => k_asm); (case Nzw => k_asm); (case Uzw => k_updF); (case dzw => k_asm); (case lzw => first | assumption | (simp only [*]; done)); (case zzw => exact szOk (by omega))); intro h'zw' o'zw' F'zw' N'zw' hd'zw'; (try dsimp only at N'zw'); (try k_sweep)))
  (k_with "=getMethod ref" => (k_here; (with_reducible show wpAny _ _ (getMethod (Value.ref _) (PySem.Str.ofString "append") _) _ _ _); k_dflt (refine' kl_method ?Nzw ?mzw PySem.F.slot_list_append PySem.F.type_list_append ?_; (case Nzw => k_asm); (case mzw => k_mem))))
  (k_with "=call ref" => (k_here; k_dflt (refine' call_cls ?k1zw ?k2zw ?k3zw ?k4zw ?k5zw ?k6zw ?_; (case k1zw => k_asm); (case k2zw => k_asm); (case k3zw => k_asm); (case k4zw => k_is); (case k5zw => k_is); (case k6zw => k_is); k_whole; intro x'zw' d'zw' h'zw' F'zw' N'zw' l1zw' l2zw'; (try k_lt l1zw'); (try k_lt2 l2zw'); (try k_sweep); k_enter)))
  (k_with "=call ref" => (k_here; k_dflt (refine wpAny_call ?_; k_enter)))
  (k_with "=getMethod ref" => (k_here; (with_reducible show wpAny _ _ (getMethod (Value.ref _) (Str.ofString "get") _) _ _ _); k_dflt (refine kdg_method (knd := PySem.intKind _ _) (by k_asm) (by k_mem) (by k_asm) ?_)))
  (k_with "=call builtin:dict.get" => (k_here; (with_reducible show wpAny _ _ (call (Value.builtin "dict.get") [Value.ref _, Value.int _ _, _]) _ _ _); k_dflt (refine kdg_get2 (knd := PySem.intKind _ _) (by k_asm) (by k_mem) (by k_asm) (by first | exact nm_ow (by assumption) | exact nm_sd (by assumption) | exact nm_mp (by assumption) | exact notmod (by omega)) (intKind_is _ _ _ _) _ rfl ?_)))
  (k_with "tb_rel" => exact ⟨by assumption, by assumption, by assumption, by first | exact rfl | assumption, by first | exact rfl | assumption, by first | exact lt_add 1 hd9 rfl | exact lt_add 2 hd9 rfl | exact lt_add 3 hd9 rfl | exact lt_add 4 hd9 rfl | exact lt_add 1 hd8 rfl | exact lt_add 2 hd8 rfl | exact lt_add 3 hd8 rfl | exact lt_add 4 hd8 rfl | ((try simp only [depth_under_make, depth_under_kw, depth_in1, depth_deeper, depth_caller]); omega) | decide, by first | exact lt_add 1 hu9 rfl | exact lt_add 2 hu9 rfl | exact lt_add 3 hu9 rfl | exact lt_add 4 hu9 rfl | exact lt_add 5 hu9 rfl | exact lt_add 6 hu9 rfl | exact lt_add 1 hu8 rfl | exact lt_add 2 hu8 rfl | exact lt_add 3 hu8 rfl | exact lt_add 4 hu8 rfl | exact lt_add 5 hu8 rfl | exact lt_add 6 hu8 rfl | ((try simp only [units_in1, units_deeper, units_under_make, units_caller, Around.deeper_units]); omega) | decide⟩)
  (k_with "k_upd" => first | exact upd_cd (by assumption) (by k_all) | exact upd_rw (by assumption) (by k_all) | exact upd_od (by assumption) (by k_all) | exact upd_ft (by assumption) (by k_all) | (refine' upd_core ?azw ?bzw; (case azw => exact off_all (by assumption) (Or.inr (by with_reducible assumption))); (case bzw => k_upd)))
  (k_with "k_updF" => first | exact upd_ow (by assumption) (by k_all) | exact upd_mp (by assumption) (by k_all) | exact upd_sd (by assumption) (by k_all))
  (k_with "k_room" => first | exact room 0 (a := 900) (by with_reducible assumption) rfl | exact room 1 (a := 900) (by with_reducible assumption) rfl | exact room 2 (a := 900) (by with_reducible assumption) rfl | exact room 3 (a := 900) (by with_reducible assumption) rfl | exact room 4 (a := 900) (by with_reducible assumption) rfl | exact room 5 (a := 900) (by with_reducible assumption) rfl | exact room 6 (a := 900) (by with_reducible assumption) rfl)
  (k_with "k_all" => (with_reducible refine List.forall_mem_cons.mpr ⟨Or.inr (by with_reducible assumption), ?_⟩; k_all))
  (k_with "kst" => first | (k_unfold; (try dsimp only)) | (k_end; wrow_close) | walk1 | (dsimp only; walk1) | (leave1; walk_say "STEP leave1"; try dsimp only) | fail "no step")
  trivial
example : True := by first | (w_top off; (fail_if_success walk1); trivial) | trivial
section
open PySem PySem.W PySem.Calls PyProof.Rows
section
def HI (P : Params) (i : Nat) : Int := PyData.keyHash P ((["mode", "t", "value", "reg", "offset", "fix", "root", "tag", "length", "cond", "truths", "falses", "obj", "place", "slot", "was"] : List Str).getD (i - 40) "")
theorem itE_h {H H' : Nat → Int} (h : ∀ i, 40 ≤ i → H i = H' i) (t : Nat → Tok) (v : Nat → Value) (mode : Str) (tm : Tok) (value : Int) (tv : Tok) (reg : Int) (tr : Tok) (root : Bool) (slot : Int) (ts : Tok) (was : Str) (tw : Tok) :
    itE H t v mode tm value tv reg tr root slot ts was tw = itE H' t v mode tm value tv reg tr root slot ts was tw := by
  unfold itE
  rw [h 40 (by decide), h 41 (by decide), h 42 (by decide), h 43 (by decide), h 44 (by decide), h 45 (by decide), h 46 (by decide), h 47 (by decide), h 48 (by decide), h 49 (by decide), h 50 (by decide), h 51 (by decide), h 52 (by decide), h 53 (by decide), h 54 (by decide), h 55 (by decide)]
abbrev itN (H : Nat → Int) (t : Nat → Tok) (v : Nat → Value) (mode : Str) (tm : Tok) (value : Value) (reg : Int) (tr : Tok) (root : Bool) (slot : Int) (ts : Tok) (was : Str) (tw : Tok) : List DictEntry :=
  [⟨H 40, .str "mode" (t 0), .str mode tm⟩, ⟨H 41, .str "t" (t 1), v 1⟩, ⟨H 42, .str "value" (t 2), value⟩, ⟨H 43, .str "reg" (t 3), .int reg tr⟩, ⟨H 44, .str "offset" (t 4), v 4⟩, ⟨H 45, .str "fix" (t 5), v 5⟩,
   ⟨H 46, .str "root" (t 6), .bool root⟩, ⟨H 47, .str "tag" (t 7), v 7⟩, ⟨H 48, .str "length" (t 8), v 8⟩, ⟨H 49, .str "cond" (t 9), v 9⟩, ⟨H 50, .str "truths" (t 10), v 10⟩, ⟨H 51, .str "falses" (t 11), v 11⟩,
   ⟨H 52, .str "obj" (t 12), v 12⟩, ⟨H 53, .str "place" (t 13), v 13⟩, ⟨H 54, .str "slot" (t 14), .int slot ts⟩, ⟨H 55, .str "was" (t 15), .str was tw⟩]
section
variable {w : World} {A₀ : Around} {E : Value → Shared → Prop} {s : Shared} {base h₀ : Heap} {env : Env} {outer : List Env} {L d u : Nat} {m mg mb : Str → Option Value} {loose : List Str} {mean : ExcName → Option Value}
def imBody : List Stmt := clsBody 5
abbrev imE (L : Nat) : Env := envOf (Str.ofString "Item.__init__") { kind := .function, names := [(Str.ofString "self", .local), (Str.ofString "mode", .local), (Str.ofString "t", .local)], isGenerator := false, isCoroutine := false } L 105 (.ref 104)
theorem imSlf {A : Around} {x : Nat} (hm : m (Str.ofString "self") = some (.ref x)) : Slf w A E h₀ L m (imE L) x := fun _ _ _ F h => nameX_L F hm h
theorem imNm1 {A : Around} {v : Value} (hm : m (Str.ofString "mode") = some v) (Q : Value → Shared → Prop) (s : Shared) (p : Pos) (F : Fr h₀ L s.heap m) (h : Q v s) : wpAny (model pg w) A (eval (.Name (Str.ofString "mode") p) (imE L)) Q E s := nameX_L F hm h
theorem imNm2 {A : Around} {v : Value} (hm : m (Str.ofString "t") = some v) (Q : Value → Shared → Prop) (s : Shared) (p : Pos) (F : Fr h₀ L s.heap m) (h : Q v s) : wpAny (model pg w) A (eval (.Name (Str.ofString "t") p) (imE L)) Q E s := nameX_L F hm h
theorem mem4 {α : Type} {a b c d : α} {r : List α} : ∀ p ∈ c :: d :: a :: b :: r, p ∈ a :: b :: c :: d :: r := by
  intro p hp
  simp only [List.mem_cons] at hp ⊢
  rcases hp with h | h | h | h | h
  · exact .inr (.inr (.inl h))
  · exact .inr (.inr (.inr (.inl h)))
  · exact .inl h
  · exact .inr (.inl h)
  · exact .inr (.inr (.inr (.inr h)))
theorem mk_item2 {P : Params} {h₀ h : Heap} {L : Addr} {x dx n : Nat} {t0 t1 t2 t3 t4 t5 t6 t7 t8 t9 t10 t11 t12 t13 t14 t15 tm tr ts ta : Tok} {v1 v4 v5 v7 v8 v9 v10 v11 v12 v13 val : Value} {reg slot : Int} {root : Bool} {mode was : Str} {q10 q11 : Addr × Obj} {es1 es2 es3 es4 es5 es6 es7 es8 es9 es10 es11 es12 es13 es14 es15 es16 : List DictEntry} {rest R10 R11 : List (Addr × Obj)}
    (N : News h₀ L h ((x, instObj 108 dx) :: (dx, dictOf es16 n) :: R11))
    (he1 : es1 = [] ++ [⟨PyData.keyHash P (Str.ofString "mode"), .str "mode" t0, .str mode tm⟩]) (he2 : es2 = es1 ++ [⟨PyData.keyHash P (Str.ofString "t"), .str "t" t1, v1⟩]) (he3 : es3 = es2 ++ [⟨PyData.keyHash P (Str.ofString "value"), .str "value" t2, val⟩]) (he4 : es4 = es3 ++ [⟨PyData.keyHash P (Str.ofString "reg"), .str "reg" t3, .int reg tr⟩]) (he5 : es5 = es4 ++ [⟨PyData.keyHash P (Str.ofString "offset"), .str "offset" t4, v4⟩]) (he6 : es6 = es5 ++ [⟨PyData.keyHash P (Str.ofString "fix"), .str "fix" t5, v5⟩]) (he7 : es7 = es6 ++ [⟨PyData.keyHash P (Str.ofString "root"), .str "root" t6, .bool root⟩]) (he8 : es8 = es7 ++ [⟨PyData.keyHash P (Str.ofString "tag"), .str "tag" t7, v7⟩]) (he9 : es9 = es8 ++ [⟨PyData.keyHash P (Str.ofString "length"), .str "length" t8, v8⟩]) (he10 : es10 = es9 ++ [⟨PyData.keyHash P (Str.ofString "cond"), .str "cond" t9, v9⟩]) (he11 : es11 = es10 ++ [⟨PyData.keyHash P (Str.ofString "truths"), .str "truths" t10, v10⟩]) (he12 : es12 = es11 ++ [⟨PyData.keyHash P (Str.ofString "falses"), .str "falses" t11, v11⟩]) (he13 : es13 = es12 ++ [⟨PyData.keyHash P (Str.ofString "obj"), .str "obj" t12, v12⟩]) (he14 : es14 = es13 ++ [⟨PyData.keyHash P (Str.ofString "place"), .str "place" t13, v13⟩]) (he15 : es15 = es14 ++ [⟨PyData.keyHash P (Str.ofString "slot"), .str "slot" t14, .int slot ts⟩]) (he16 : es16 = es15 ++ [⟨PyData.keyHash P (Str.ofString "was"), .str "was" t15, .str was ta⟩]) (hr10 : R10 = q10 :: rest) (hr11 : R11 = q11 :: R10)
    {Z : Prop} (H : ∀ t v, News h₀ L h ((x, instObj 108 dx) :: (dx, dictOf (itN (HI P) t v mode tm val reg tr root slot ts was ta) n) :: rest) → Z) : Z := by
  rw [hr11, hr10, he16, he15, he14, he13, he12, he11, he10, he9, he8, he7, he6, he5, he4, he3, he2, he1] at N
  simp only [List.nil_append, List.cons_append] at N
  have N2 : News h₀ L h (q11 :: q10 :: (x, instObj 108 dx) :: _ :: rest) := News.sub N (mem4)
  exact H (fun i => [t0, t1, t2, t3, t4, t5, t6, t7, t8, t9, t10, t11, t12, t13, t14, t15].getD i 0) (fun i => [.none, v1, .none, .none, v4, v5, .none, v7, v8, v9, v10, v11, v12, v13, .none, .none].getD i .none) (News.sub N2 fun p hp => .tail _ (.tail _ hp))
set_option maxRecDepth 100000 in
set_option maxHeartbeats 1000000 in
theorem item_init {A : Around} {Q : Flow → Shared → Prop} {x dx : Nat} {tm : Tok} {a : Nat} {rest : List (Addr × Obj)} (X : (hd.heap_1 w.params).In h₀) (F : Fr h₀ L s.heap m)
    (hm0 : m (Str.ofString "self") = some (.ref x)) (hm1 : m (Str.ofString "mode") = some (.str "reg" tm)) (hm2 : m (Str.ofString "t") = some (.ref a))
    (N : News h₀ L s.heap ((x, instObj 108 dx) :: (dx, dictOf [] 0) :: rest)) (hl : ∀ p ∈ rest, @LT.lt Nat _ p.1 dx) (hx : @LT.lt Nat _ dx x)
    (h : ∀ h' tk n t v tr ts ta, Fr h₀ L h' m → News h₀ L h' ((x, instObj 108 dx) :: (dx, dictOf (itN (HI w.params) t v "reg" tm .none (-1) tr false 0 ts "" ta) n) :: rest) → Q .next { s with heap := h', toks := tk }) :
    wpAny (model pg w) A (execs imBody (imE L)) Q E s := by
  have fill : PySem.Challenge.rw_pb0351_01 = PySem.Challenge.rw_pb0351_01 ∧ Mine.hd.heap_1 = Mine.hd.heap_1 := by
    k_fill
    exact ⟨rfl, rfl⟩
  clear fill
  have cc : CC w 108 := ⟨by k_is, by k_is, by k_is⟩
  have G0 := Lg.mk F N hx (fun p hp => Nat.ne_of_lt (hl p hp)) (fun p hp => Nat.le_of_lt (Nat.lt_trans (hl p hp) hx)) (Nat.le_refl _) (.inl rfl) (ks := []) rfl
  refine wpAny_execs_cons (set_name (imSlf hm0) (imNm1 hm1) X cc G0 (by k_is) (by kernel_rfl) (by kernel_rfl) fun j0 t0 u0 es1 he1 G1 => ?_)
  refine wpAny_execs_cons (set_name (imSlf hm0) (imNm2 hm2) X cc G1 (by k_is) (by kernel_rfl) (by kernel_rfl) fun j1 t1 u1 es2 he2 G2 => ?_)
  refine wpAny_execs_cons (set_none (imSlf hm0) X cc G2 (by k_is) (by kernel_rfl) (by kernel_rfl) fun j2 t2 u2 es3 he3 G3 => ?_)
  refine wpAny_execs_cons (set_neg (imSlf hm0) X cc G3 (by k_is) (by kernel_rfl) (by kernel_rfl) fun j3 t3 w3 u3 es4 he4 G4 => ?_)
  refine wpAny_execs_cons (set_int (imSlf hm0) X cc G4 (by k_is) (by kernel_rfl) (by kernel_rfl) fun j4 t4 w4 u4 es5 he5 G5 => ?_)
  refine wpAny_execs_cons (set_none (imSlf hm0) X cc G5 (by k_is) (by kernel_rfl) (by kernel_rfl) fun j5 t5 u5 es6 he6 G6 => ?_)
  refine wpAny_execs_cons (set_bool (imSlf hm0) X cc G6 (by k_is) (by kernel_rfl) (by kernel_rfl) fun j6 t6 u6 es7 he7 G7 => ?_)
  refine wpAny_execs_cons (set_none (imSlf hm0) X cc G7 (by k_is) (by kernel_rfl) (by kernel_rfl) fun j7 t7 u7 es8 he8 G8 => ?_)
  refine wpAny_execs_cons (set_none (imSlf hm0) X cc G8 (by k_is) (by kernel_rfl) (by kernel_rfl) fun j8 t8 u8 es9 he9 G9 => ?_)
  refine wpAny_execs_cons (set_str (imSlf hm0) X cc G9 (by k_is) (by kernel_rfl) (by kernel_rfl) fun j9 t9 w9 u9 es10 he10 G10 => ?_)
  refine wpAny_execs_cons (set_list (imSlf hm0) X cc G10 (by k_is) (by kernel_rfl) (by kernel_rfl) fun l10 j10 t10 u10 es11 R10 he11 hr10 lt10 G11 => ?_)
  refine wpAny_execs_cons (set_list (imSlf hm0) X cc G11 (by k_is) (by kernel_rfl) (by kernel_rfl) fun l11 j11 t11 u11 es12 R11 he12 hr11 lt11 G12 => ?_)
  refine wpAny_execs_cons (set_none (imSlf hm0) X cc G12 (by k_is) (by kernel_rfl) (by kernel_rfl) fun j12 t12 u12 es13 he13 G13 => ?_)
  refine wpAny_execs_cons (set_neg (imSlf hm0) X cc G13 (by k_is) (by kernel_rfl) (by kernel_rfl) fun j13 t13 w13 u13 es14 he14 G14 => ?_)
  refine wpAny_execs_cons (set_int (imSlf hm0) X cc G14 (by k_is) (by kernel_rfl) (by kernel_rfl) fun j14 t14 w14 u14 es15 he15 G15 => ?_)
  refine wpAny_execs_cons (set_str (imSlf hm0) X cc G15 (by k_is) (by kernel_rfl) (by kernel_rfl) fun j15 t15 w15 u15 es16 he16 G16 => ?_)
  refine wpAny_execs_nil ?_
  exact mk_item2 G16.fN he1 he2 he3 he4 he5 he6 he7 he8 he9 he10 he11 he12 he13 he14 he15 he16 hr10 hr11 fun t v NK => h _ _ _ t v _ _ _ G16.fF NK
example : True := by
  (k_with "stopInew1" => (with_reducible show wpAny _ _ (execs (Stmt.Assign [Expr.Attribute (Expr.Name (Str.ofString "self") _) (Str.ofString "mode") _] _ _ :: _) _) _ _ _))
  trivial
set_option maxRecDepth 100000 in
set_option maxHeartbeats 1000000 in
theorem item_new {Q : Value → Shared → Prop} {tm : Tok} {a : Nat} {rest : List (Addr × Obj)} (C : CT w A₀ base h₀ env outer L d u mg mb loose mean) (hd8 : d < 800) (hu8 : u < 8000) (F : Fr h₀ L s.heap m) (N : News h₀ L s.heap rest)
    (h : ∀ h' tk x dx n t v tm' tr ts ta, Fr h₀ L h' m → News h₀ L h' ((x, instObj 108 dx) :: (dx, dictOf (itN (HI w.params) t v "reg" tm' .none (-1) tr false 0 ts "" ta) n) :: rest) → (∀ p ∈ rest, @LT.lt Nat _ p.1 dx) → @LT.lt Nat _ dx x → Q (.ref x) { s with heap := h', toks := tk }) :
    wpAny (model pg w) (AA d u (env :: outer)) (call (.ref 108) [.str "reg" tm, .ref a] []) Q E s := by
  have fill : PySem.Challenge.rw_pb0351_01 = PySem.Challenge.rw_pb0351_01 ∧ Mine.hd.heap_1 = Mine.hd.heap_1 := by
    k_fill
    exact ⟨rfl, rfl⟩
  clear fill
  obtain ⟨B, X, T, hf, hke, hdp, hu⟩ := C
  (repeat' ((fail_if_success k_extra "stopInew1"); k_extra "kst"))
  rename ∀ p ∈ rest, p.1 < _ => hl1
  refine item_init (by assumption) (by assumption) rfl rfl rfl (by assumption) hl1 (by assumption) fun h' tk n t v tr ts ta F' N' => ?_
  rename Fr _ _ _ _ => FZ
  (repeat' ((fail_if_success k_extra "stopInew1"); k_extra "kst"))
  rename News _ _ _ _ => NK
  exact h _ _ _ _ _ t v _ _ _ _ (by assumption) NK hl1 (by assumption)
end
end
end
section
open PySem PySem.W PySem.Calls PyProof.Rows PySem.Spec
section
abbrev opS (i : IR) (sl : Int) (tp : Nat) (t3 t4 t5 ts : Tok) : Op := ⟨tp, true, i.reg, sl, t3, t4, t5, ts⟩
theorem SlotsOk.fresh {low lowest : Int} {fs : List Int} {spl : List (Int × Nat)} (S : SlotsOk low lowest fs (spl.map (·.1))) (x : Nat) :
    SlotsOk (tempF low lowest fs).2.1 (tempF low lowest fs).2.2.1 (tempF low lowest fs).2.2.2 ((spl ++ [((tempF low lowest fs).1, x)]).map (·.1)) := by
  rw [List.map_append]; exact S.give.1
theorem tempF_cnt (low lowest : Int) (fs : List Int) : (tempF low lowest fs).2.2.2.length ≤ fs.length ∧ low - 4 ≤ (tempF low lowest fs).2.1 := by
  refine ⟨tempF_len low lowest fs, ?_⟩
  unfold tempF
  split
  · show low - 4 ≤ low; omega
  · exact Int.le_refl _
/-- what a lap's storing rows leave -/
structure Sp (cnt : Int) (S S' : St) (st st' : List (Int × Value) × List (Int × Value)) (ops : List Op) (T : List (Addr × Obj)) : Prop where
  core : Core cnt S'.its S'.own S'.spl
  slots : SlotsOk S'.low S'.lowest S'.fs (S'.spl.map (·.1))
  vals : Vals S'.its st'
  play : ops.foldl playF st = st'
  rows : S'.rV = S.rV ++ ops.map fun q => Value.ref q.tp
  ext : S'.ext = T ++ S.ext
  opsIn : ∀ q ∈ ops, (q.tp, q.o) ∈ T
  tup : ∀ p ∈ T, ∃ vs, p.2 = tupO vs
  low : S'.low ≤ S.low
  deep : S'.low = S.low ∨ S'.low ∈ S'.spl.map (·.1)
  cnt1 : ops.length + S'.own.length = S.own.length
  cnt2 : S'.fs.length ≤ S.fs.length
  cnt3 : S'.spl.length = S.spl.length + ops.length
  cnt4 : S.low - 4 * ops.length ≤ S'.low
  xs : S'.its.map (·.x) = S.its.map (·.x)
  dxs : S'.its.map (·.dx) = S.its.map (·.dx)
theorem upd_dxs {its : List IR} {x : Nat} {f : IR → IR} (hf : ∀ i, (f i).dx = i.dx) : (upd its x f).map (·.dx) = its.map (·.dx) := by
  unfold upd
  rw [List.map_map]
  refine List.map_congr_left fun i _ => ?_
  show (if i.x = x then f i else i).dx = i.dx
  split
  · exact hf i
  · rfl
theorem Spilt.sp {cnt : Int} {S S' : St} (h : Spilt S S') (C : Core cnt S.its S.own S.spl) (hS : SlotsOk S.low S.lowest S.fs (S.spl.map (·.1))) {st : List (Int × Value) × List (Int × Value)} (V : Vals S.its st) :
    ∃ st' ops T, Sp cnt S S' st st' ops T := by
  induction h with
  | refl => exact ⟨st, [], [], C, hS, V, rfl, (List.append_nil _).symm, rfl, (fun _ h => nomatch h), (fun _ h => nomatch h), Int.le_refl _, .inl rfl, Nat.zero_add _, Nat.le_refl _, rfl, by simp, rfl, rfl⟩
  | @step S' i r own tm tr ts ta t3 t4 t5 tp h1 ho hi hr ih =>
    obtain ⟨st', ops, T, P⟩ := ih
    subst hr
    have hmode : i.mode = "reg" := by
      obtain ⟨v, hv, e1, _, e3⟩ := P.core.o2i (i.reg, i.x) (ho ▸ .head _)
      rw [← one_x P.core.xnd hv hi e1]; exact e3
    obtain ⟨g1, g2, g3, g4⟩ := P.slots.give
    have hC := P.core.spill (oa := []) (ob := own) hi hmode ho g2 tm tr ts ta
    have hV := Vals.spill P.core P.vals hi hmode g2 tm tr ts ta
    obtain ⟨c1, c2⟩ := tempF_cnt S'.low S'.lowest S'.fs
    have p1 := P.low
    have p4 := P.cnt4
    have p5 := P.cnt1
    have p6 := P.cnt2
    have p7 := P.cnt3
    rw [ho, List.length_cons] at p5
    refine ⟨_, ops ++ [opS i (tempF S'.low S'.lowest S'.fs).1 tp t3 t4 t5 ts], (tp, tupS i (tempF S'.low S'.lowest S'.fs).1 t3 t4 t5 ts) :: T, hC, P.slots.fresh i.x, hV, ?_, ?_, ?_, ?_, ?_, ?_, ?_, ?_, ?_, ?_, ?_, ?_, ?_⟩
    · rw [List.foldl_append, P.play]; rfl
    · rw [P.rows, List.map_append, List.append_assoc]; rfl
    · rw [P.ext]; rfl
    · intro q hq
      rcases List.mem_append.mp hq with h | h
      · exact .tail _ (P.opsIn q h)
      · rw [List.mem_singleton.mp h]; exact .head _
    · intro p hp
      rcases List.mem_cons.mp hp with rfl | hp
      · exact ⟨_, rfl⟩
      · exact P.tup p hp
    · exact Int.le_trans g4 p1
    · dsimp only
      rw [List.map_append]
      rcases g3 with e | e
      · rw [e]
        rcases P.deep with e' | e'
        · exact .inl e'
        · exact .inr (List.mem_append_left _ e')
      · rw [e]; exact .inr (List.mem_append_right _ (.head _))
    · dsimp only; rw [List.length_append, List.length_singleton]; omega
    · exact Nat.le_trans c1 p6
    · dsimp only; rw [List.length_append, List.length_append, List.length_singleton, List.length_singleton]; omega
    · dsimp only; rw [List.length_append, List.length_singleton]; omega
    · dsimp only; rw [upd_xs (f := (·.spilt (tempF S'.low S'.lowest S'.fs).1 tm tr ts ta)) fun _ => rfl]; exact P.xs
    · dsimp only; rw [upd_dxs (f := (·.spilt (tempF S'.low S'.lowest S'.fs).1 tm tr ts ta)) fun _ => rfl]; exact P.dxs
section
variable {X : Fx} {rgO wdO o1 o2 : Obj} {lvV rowV : List Value} {lvN rowN : Nat} {roV : List Value} {roN : Nat} {tes : List DictEntry} {tnn : Nat} {its its' : List IR} {junk T : List (Addr × Obj)}
  {cE : List DictEntry} {cN : Nat} {rV : List Value} {rN : Nat} {oO : Obj} {dV : List Value} {dN : Nat} {mO : Obj} {tV : List Value} {tN : Nat} {fV : List Value} {fN : Nat} {sO : Obj} {h₀ h : Heap} {L : Addr} {w : World}
/-- the law's own boxes are no tuples -/
structure Box (w : World) (rgO wdO o1 o2 : Obj) : Prop where
  rg : ∃ kvs, rgO.IsDictOf (intK w) kvs
  wd : ∃ kvs, wdO.IsDictOf (intK w) kvs
  c1 : ∃ v, o1.data = .cell v
  c2 : ∃ v, o2.data = .cell v
theorem dict_ne {o : Obj} {vs : List Value} (h : ∃ kvs, o.IsDictOf (intK w) kvs) : o ≠ tupO vs := by
  rintro rfl
  obtain ⟨_, _, _, ⟨e, _⟩, _⟩ := h
  exact absurd e (by simp [tupO])
theorem Box.no (b : Box w rgO wdO o1 o2) : ∀ e ∈ topL X rgO wdO lvV lvN rowV rowN o1 o2 roV roN tes tnn [], ∀ vs, e.2 ≠ tupO vs := by
  intro e he vs
  simp only [topL, List.mem_cons, List.not_mem_nil, or_false] at he
  rcases he with rfl | rfl | rfl | rfl | rfl | rfl | rfl | rfl | rfl
  · exact dict_ne b.rg
  · exact dict_ne b.wd
  · intro e; exact absurd (congrArg Obj.cls e) (by simp [tupO])
  · intro e; exact absurd (congrArg Obj.cls e) (by simp [tupO])
  · obtain ⟨v, hv⟩ := b.c1
    rintro rfl
    cases hv
  · obtain ⟨v, hv⟩ := b.c2
    rintro rfl
    cases hv
  · intro e; exact absurd (congrArg Obj.cls e) (by simp [tupO])
  · intro e; exact absurd (congrArg Obj.cls e) (by simp [tupO])
  · intro e; exact absurd (congrArg Obj.cls e) (by simp [tupO])
theorem Wf.tuples (b : Box w rgO wdO o1 o2) (N : News h₀ L h (coreL X.K cE cN rV rN oO dV dN mO tV tN fV fN sO (itL X.K.h its' ++ (T ++ topL X rgO wdO lvV lvN rowV rowN o1 o2 roV roN tes tnn junk)))) (hT : ∀ p ∈ T, ∃ vs, p.2 = tupO vs)
    (w' : Wf X its junk) (W : WFL X.K its' (T ++ topL X rgO wdO lvV lvN rowV rowN o1 o2 roV roN tes tnn junk)) (hd : its'.map (·.dx) = its.map (·.dx)) : Wf X its' (T ++ junk) := by
  have hsub : ∀ p ∈ T ++ junk, p ∈ T ++ topL X rgO wdO lvV lvN rowV rowN o1 o2 roV roN tes tnn junk := fun p hp => by
    rcases List.mem_append.mp hp with q | q
    · exact List.mem_append_left _ q
    · exact List.mem_append_right _ (show p ∈ topL X rgO wdO lvV lvN rowV rowN o1 o2 roV roN tes tnn [] ++ junk from List.mem_append_right _ q)
  refine ⟨W.less hsub, fun i hi => ?_, fun p hp k hk e => ?_⟩
  · have : i.dx ∈ its.map (·.dx) := hd ▸ List.mem_map.mpr ⟨i, hi, rfl⟩
    obtain ⟨j, hj, e⟩ := List.mem_map.mp this
    rw [← e]; exact w'.lv j hj
  · rcases List.mem_append.mp hp with q | q
    · obtain ⟨vs, hv⟩ := hT p q
      have e1 : (topL X rgO wdO lvV lvN rowV rowN o1 o2 roV roN tes tnn []).map (·.1) = X.keys := rfl
      rw [← e1] at hk
      obtain ⟨r, hr, rfl⟩ := List.mem_map.mp hk
      have n1 := (N p (core_mem (List.mem_append_right _ (List.mem_append_left _ q)))).1
      have n2 := (N r (core_mem (List.mem_append_right _ (List.mem_append_right _ (show r ∈ topL X rgO wdO lvV lvN rowV rowN o1 o2 roV roN tes tnn [] ++ junk from List.mem_append_left _ hr))))).1
      rw [e, n2] at n1
      exact b.no r hr vs ((Option.some.inj n1).trans hv)
    · exact w'.ap p q k hk e
theorem its_back (N : News h₀ L h (coreL X.K cE cN rV rN oO dV dN mO tV tN fV fN sO (itL X.K.h its' ++ (T ++ topL X rgO wdO lvV lvN rowV rowN o1 o2 roV roN tes tnn junk)))) :
    News h₀ L h (coreL X.K cE cN rV rN oO dV dN mO tV tN fV fN sO (topL X rgO wdO lvV lvN rowV rowN o1 o2 roV roN tes tnn (itL X.K.h its' ++ (T ++ junk)))) := by
  refine core_sub N fun p hp => ?_
  rcases List.mem_append.mp (show p ∈ topL X rgO wdO lvV lvN rowV rowN o1 o2 roV roN tes tnn [] ++ (itL X.K.h its' ++ (T ++ junk)) from hp) with q | q
  · exact List.mem_append_right _ (List.mem_append_right _ (show p ∈ topL X rgO wdO lvV lvN rowV rowN o1 o2 roV roN tes tnn [] ++ junk from List.mem_append_left _ q))
  · rcases List.mem_append.mp q with q | q
    · exact List.mem_append_left _ q
    · rcases List.mem_append.mp q with q | q
      · exact List.mem_append_right _ (List.mem_append_left _ q)
      · exact List.mem_append_right _ (List.mem_append_right _ (show p ∈ topL X rgO wdO lvV lvN rowV rowN o1 o2 roV roN tes tnn [] ++ junk from List.mem_append_right _ q))
end
end
end
section
open PySem PySem.W PySem.Calls PyProof.Rows PySem.Spec
section
theorem SlotsOk.perm {low lowest : Int} {fs ks fs' ks' : List Int} (S : SlotsOk low lowest fs ks) (h : (fs' ++ ks').Perm (fs ++ ks)) : SlotsOk low lowest fs' ks' :=
  ⟨S.eq, S.le, S.four, fun s hs => S.all s (h.mem_iff.mp hs), h.nodup_iff.mpr S.nd⟩
theorem SlotsOk.back {low lowest : Int} {fs : List Int} {sa sb : List (Int × Nat)} {k : Int} {x : Nat} (S : SlotsOk low lowest fs ((sa ++ (k, x) :: sb).map (·.1))) : SlotsOk low lowest (fs ++ [k]) ((sa ++ sb).map (·.1)) := by
  refine S.perm ?_
  rw [List.append_assoc, List.map_append, List.map_append, List.map_cons, List.singleton_append]
  exact List.Perm.append_left fs List.perm_middle.symm
/-- what a lap's deed leaves -/
structure Lp (cnt : Int) (S S' : St) (st st' : List (Int × Value) × List (Int × Value)) (ops : List Op) (T : List (Addr × Obj)) : Prop where
  core : Core cnt S'.its S'.own S'.spl
  slots : SlotsOk S'.low S'.lowest S'.fs (S'.spl.map (·.1))
  vals : Vals S'.its st'
  play : ops.foldl playF st = st'
  rows : S'.rV = S.rV ++ ops.map fun q => Value.ref q.tp
  ext : S'.ext = T ++ S.ext
  opsIn : ∀ q ∈ ops, (q.tp, q.o) ∈ T
  tup : ∀ p ∈ T, ∃ vs, p.2 = tupO vs
  deep : S'.low = S.low ∨ S'.low ∈ S'.spl.map (·.1)
  low : S.low - 32 ≤ S'.low
  lle : S'.low ≤ S.low
  nops : ops.length ≤ 8
  nfs : S'.fs.length ≤ S.fs.length + 1
  xs : S'.its.map (·.x) = S.its.map (·.x)
  dxs : S'.its.map (·.dx) = S.its.map (·.dx)
section
variable {cnt : Int} {S S' : St} {st st' : List (Int × Value) × List (Int × Value)} {ops : List Op} {T : List (Addr × Obj)} {v q : IR} {oa ob : List (Int × Nat)}
theorem Sp.lp (P : Sp cnt S S' st st' ops T) (h : S.own.length ≤ 7) : Lp cnt S S' st st' ops T := by
  have p1 := P.cnt1
  have p2 := P.cnt2
  have p4 := P.cnt4
  exact ⟨P.core, P.slots, P.vals, P.play, P.rows, P.ext, P.opsIn, P.tup, P.deep, by omega, P.low, by omega, by omega, P.xs, P.dxs⟩
abbrev St.one (S : St) (v : IR) (oo : List (Int × Nat)) (tm tr ts ta t3 t4 t5 : Tok) (tp : Addr) : St :=
  ⟨(tempF S.low S.lowest S.fs).2.1, (tempF S.low S.lowest S.fs).2.2.1, (tempF S.low S.lowest S.fs).2.2.2, oo, S.spl ++ [((tempF S.low S.lowest S.fs).1, v.x)], upd S.its v.x (·.spilt (tempF S.low S.lowest S.fs).1 tm tr ts ta), S.rV ++ [.ref tp], (tp, tupS v (tempF S.low S.lowest S.fs).1 t3 t4 t5 ts) :: S.ext⟩
theorem Sp.refl (C : Core cnt S.its S.own S.spl) (hS : SlotsOk S.low S.lowest S.fs (S.spl.map (·.1))) (V : Vals S.its st) : Sp cnt S S st st [] [] :=
  ⟨C, hS, V, rfl, (List.append_nil _).symm, rfl, (fun _ h => nomatch h), (fun _ h => nomatch h), Int.le_refl _, .inl rfl, Nat.zero_add _, Nat.le_refl _, rfl, by simp, rfl, rfl⟩
theorem Sp.one (C : Core cnt S.its S.own S.spl) (hS : SlotsOk S.low S.lowest S.fs (S.spl.map (·.1))) (V : Vals S.its st) (hv : v ∈ S.its) (hm : v.mode = "reg") (ho : S.own = oa ++ (v.reg, v.x) :: ob) (tm tr ts ta t3 t4 t5 : Tok) (tp : Addr) :
    Sp cnt S (S.one v (oa ++ ob) tm tr ts ta t3 t4 t5 tp) st (playF st (opS v (tempF S.low S.lowest S.fs).1 tp t3 t4 t5 ts)) [opS v (tempF S.low S.lowest S.fs).1 tp t3 t4 t5 ts] [(tp, tupS v (tempF S.low S.lowest S.fs).1 t3 t4 t5 ts)] := by
  obtain ⟨g1, g2, g3, g4⟩ := hS.give
  have hC := C.spill hv hm ho g2 tm tr ts ta
  have hV := Vals.spill C V hv hm g2 tm tr ts ta
  obtain ⟨c1, c2⟩ := tempF_cnt S.low S.lowest S.fs
  refine ⟨hC, hS.fresh v.x, hV, rfl, rfl, rfl, ?_, ?_, g4, ?_, ?_, c1, ?_, ?_, ?_, ?_⟩
  · intro p hp; rw [List.mem_singleton.mp hp]; exact .head _
  · intro p hp; rw [List.mem_singleton.mp hp]; exact ⟨_, rfl⟩
  · dsimp only
    rw [List.map_append]
    rcases g3 with e | e
    · exact .inl e
    · rw [e]; exact .inr (List.mem_append_right _ (.head _))
  · dsimp only; rw [ho]; simp; omega
  · dsimp only; rw [List.length_append, List.length_singleton, List.length_singleton]
  · dsimp only; rw [List.length_singleton]; omega
  · exact upd_xs (f := (·.spilt (tempF S.low S.lowest S.fs).1 tm tr ts ta)) fun _ => rfl
  · exact upd_dxs (f := (·.spilt (tempF S.low S.lowest S.fs).1 tm tr ts ta)) fun _ => rfl
theorem upd_upd {its : List IR} {x : Nat} {f g : IR → IR} (hf : ∀ i, (f i).x = i.x) : upd (upd its x f) x g = upd its x (fun i => g (f i)) := by
  unfold upd
  rw [List.map_map]
  refine List.map_congr_left fun i _ => ?_
  show (if (if i.x = x then f i else i).x = x then g (if i.x = x then f i else i) else (if i.x = x then f i else i)) = if i.x = x then g (f i) else i
  by_cases h : i.x = x
  · rw [if_pos h, if_pos ((hf i).trans h), if_pos h]
  · rw [if_neg h, if_neg h, if_neg h]
theorem upd_app {a b : List IR} {x : Nat} {f : IR → IR} : upd (a ++ b) x f = upd a x f ++ upd b x f := List.map_append
theorem upd_snoc {its : List IR} {f : IR → IR} (h : q.x ∉ its.map (·.x)) : upd (its ++ [q]) q.x f = its ++ [f q] := by
  rw [upd_app, upd_id (its := its) fun j hj e => h (List.mem_map.mpr ⟨j, hj, e⟩)]
  show its ++ [if q.x = q.x then f q else q] = _
  rw [if_pos rfl]
/-- which register a take gives -/
def Gives (cnt : Int) (own : List (Int × Nat)) (ks : List IR) (r : Int) : Prop :=
  (0 ≤ r ∧ r < cnt ∧ r ∉ own.map (·.1) ∧ ∀ j, 0 ≤ j → j < r → j ∈ own.map (·.1)) ∨
  ((∀ j, 0 ≤ j → j < cnt → j ∈ own.map (·.1)) ∧ ∃ a b, own.map (·.1) = a ++ r :: b ∧ (∀ z ∈ a, z ∈ ks.map (·.reg)) ∧ r ∉ ks.map (·.reg))
/-- the spilling part of a take: the victim's, or none -/
theorem took_sp {K : Kst} {its all ks : List IR} {r low lowest low' lowest' : Int} {fs fs' : List Int} {own own' spl spl' : List (Int × Nat)} {rV rV' : List Value} {ext ext' : List (Addr × Obj)} {its' : List IR}
    (C : Core K.cnt its own spl) (hS : SlotsOk low lowest fs (spl.map (·.1))) (V : Vals its st) (hall : ∀ i ∈ all, i ∈ its ∨ i.x = q.x) (hqo : ∀ p ∈ own, p.2 ≠ q.x) (hks : ∀ i ∈ ks, i ∈ its)
    (h : Took K all ks q low lowest fs own spl rV ext r low' lowest' fs' own' spl' its' rV' ext') :
    ∃ S1 st1 ops T t, Sp K.cnt ⟨low, lowest, fs, own, spl, its, rV, ext⟩ S1 st st1 ops T ∧ Gives K.cnt own ks r ∧ 0 ≤ r ∧ r < K.cnt ∧ r ∉ S1.own.map (·.1) ∧ own' = S1.own ++ [(r, q.x)] ∧
      S1.low = low' ∧ S1.lowest = lowest' ∧ S1.fs = fs' ∧ S1.spl = spl' ∧ S1.rV = rV' ∧ S1.ext = ext' ∧
      (∃ f : IR → IR, ∃ x, (∀ i, (f i).x = i.x) ∧ S1.its = upd its x f ∧ (x = q.x → S1.its = its) ∧ its' = upd (upd all x f) q.x (·.held r t) ∧ (x = q.x → f = id)) ∧ (∃ z, spl' = spl ++ z) ∧ ops.length ≤ 1 := by
  rcases h with ⟨g, rfl, ⟨t, rfl⟩, rfl, rfl, rfl, rfl, rfl, rfl⟩ | ⟨g, v, oa, ob, t, tm, tr, ts, ta, t3, t4, t5, tp, hv, rfl, ho, ga, gb, rfl, rfl, rfl, rfl, rfl, rfl, rfl, rfl⟩
  · refine ⟨⟨low', lowest', fs', own, spl', its, rV', ext'⟩, st, [], [], t, Sp.refl C hS V, .inl g, g.1, g.2.1, g.2.2.1, rfl, rfl, rfl, rfl, rfl, rfl, rfl, ⟨id, q.x, fun _ => rfl, ?_, fun _ => rfl, ?_, fun _ => rfl⟩, ⟨[], (List.append_nil _).symm⟩, by simp⟩
    · show its = upd its q.x id
      unfold upd
      conv => lhs; rw [← List.map_id its]
      exact List.map_congr_left fun i _ => by split <;> rfl
    · congr 1
      unfold upd
      conv => lhs; rw [← List.map_id all]
      exact List.map_congr_left fun i _ => by split <;> rfl
  · have hmem : (v.reg, v.x) ∈ own := ho ▸ List.mem_append_right _ (.head _)
    have hvx : v.x ≠ q.x := hqo _ hmem
    have hvi : v ∈ its := (hall v hv).resolve_right hvx
    have hm : v.mode = "reg" := by
      obtain ⟨u, hu, e1, _, e3⟩ := C.o2i _ hmem
      rw [← one_x C.xnd hu hvi e1]; exact e3
    have hn := C.ond
    rw [ho, List.map_append, List.map_cons] at hn
    obtain ⟨n1, n2, n3⟩ := mid_nodup hn
    have hk := C.okey _ hmem
    refine ⟨St.one ⟨low, lowest, fs, own, spl, its, rV, ext⟩ v (oa ++ ob) tm tr ts ta t3 t4 t5 tp, _, _, _, t, Sp.one (S := ⟨low, lowest, fs, own, spl, its, rV, ext⟩) C hS V hvi hm ho tm tr ts ta t3 t4 t5 tp, .inr ⟨g, oa.map (·.1), ob.map (·.1), by rw [ho]; simp, ga, gb⟩, hk.1, hk.2, ?_, rfl, rfl, rfl, rfl, rfl, rfl, rfl,
      ⟨(·.spilt (tempF low lowest fs).1 tm tr ts ta), v.x, fun _ => rfl, rfl, fun e => absurd e hvx, rfl, fun e => absurd e hvx⟩, ⟨_, rfl⟩, by simp⟩
    show v.reg ∉ (oa ++ ob).map (·.1)
    rw [List.map_append]
    intro hmm
    rcases List.mem_append.mp hmm with h | h
    · exact n2 h
    · exact n3 h
end
end
end
section
open PySem PySem.W PySem.Calls PyProof.Rows PySem.Spec
section
section
variable {K : Kst} {st : List (Int × Value) × List (Int × Value)} {q : IR} {its ks : List IR} {r low lowest low' lowest' : Int} {fs fs' : List Int} {own own' spl spl' : List (Int × Nat)} {rV rV' : List Value} {ext ext' : List (Addr × Obj)} {its' : List IR}
abbrev opD (r : Int) (q : IR) (tp : Nat) (t3 t4 t5 : Tok) : Op := ⟨tp, false, r, q.slot, t3, t4, t5, q.ts⟩
theorem fresh_end (C : Core K.cnt its own spl) (h7 : K.cnt ≤ 7) (hS : SlotsOk low lowest fs (spl.map (·.1))) (V : Vals its st) (hm : q.mode = "reg") (hx : q.x ∉ its.map (·.x)) (hks : ∀ i ∈ ks, i ∈ its)
    (h : Took K (its ++ [q]) ks q low lowest fs own spl rV ext r low' lowest' fs' own' spl' its' rV' ext') :
    ∃ S1 st1 ops T t, Lp K.cnt ⟨low, lowest, fs, own, spl, its, rV, ext⟩ S1 st st1 ops T ∧ Gives K.cnt own ks r ∧ own' = S1.own ++ [(r, q.x)] ∧ S1.low = low' ∧ S1.lowest = lowest' ∧ S1.fs = fs' ∧ S1.spl = spl' ∧ S1.rV = rV' ∧ S1.ext = ext' ∧
      its' = S1.its ++ [q.held r t] ∧ Core K.cnt its' own' S1.spl ∧ ∀ tt, Vals its' (stored st1.1 r (.int q.value tt), st1.2) := by
  have hqo : ∀ p ∈ own, p.2 ≠ q.x := fun p hp e => by
    obtain ⟨u, hu, e1, _⟩ := C.o2i p hp
    exact hx (List.mem_map.mpr ⟨u, hu, e1.trans e⟩)
  obtain ⟨S1, st1, ops, T, t, P, hg, h0, h1, hr, ho, e1, e2, e3, e4, e5, e6, ⟨f, x, fx, fi, fe, fu, fid⟩, _, _⟩ := took_sp C hS V (q := q) (all := its ++ [q]) (fun i hi => by
    rcases List.mem_append.mp hi with h | h
    · exact .inl h
    · exact .inr (by rw [List.mem_singleton.mp h])) hqo hks h
  have hx1 : q.x ∉ S1.its.map (·.x) := by rw [P.xs]; exact hx
  have hi : its' = S1.its ++ [q.held r t] := by
    rw [fu, upd_app, ← fi]
    have : upd [q] x f = [q] := by
      show [if q.x = x then f q else q] = [q]
      by_cases e : x = q.x
      · rw [if_pos e.symm, fid e]; rfl
      · rw [if_neg fun e' => e e'.symm]
    rw [this]
    exact upd_snoc (f := (·.held r t)) hx1
  have hown := C.own_le h7
  subst hi ho
  exact ⟨S1, st1, ops, T, t, P.lp hown, hg, rfl, e1, e2, e3, e4, e5, e6, rfl, P.core.add (q := q.held r t) hx1 hm hr h0 h1, fun tt => Vals.add (q := q.held r t) P.core P.vals hm hr tt⟩
theorem load_end (C : Core K.cnt its own spl) (h7 : K.cnt ≤ 7) (hS : SlotsOk low lowest fs (spl.map (·.1))) (V : Vals its st) (hq : q ∈ its) (hm : q.mode = "spill") (hks : ∀ i ∈ ks, i ∈ its) {sa sb z : List (Int × Nat)}
    (hsp : spl = sa ++ (q.slot, q.x) :: sb) (hsp' : spl' = sa ++ (q.slot, q.x) :: (sb ++ z)) (tp : Nat) (t3 t4 t5 : Tok)
    (h : Took K its ks q low lowest fs own spl rV ext r low' lowest' fs' own' spl' its' rV' ext') :
    ∃ st2 ops T, Lp K.cnt ⟨low, lowest, fs, own, spl, its, rV, ext⟩ ⟨low', lowest', fs' ++ [q.slot], own', sa ++ (sb ++ z), upd its' q.x (·.back), rV' ++ [.ref tp], (tp, tupD r q.slot t3 t4 t5 q.ts) :: ext'⟩ st st2 ops T ∧ Gives K.cnt own ks r ∧
      ∃ t, (q.held r t).back ∈ upd its' q.x (·.back) ∧ ((q.held r t).back).mode = "reg" := by
  have hwas : q.was = "reg" := by
    rcases C.i2 q hq with ⟨a, _⟩ | ⟨_, b, _⟩
    · rw [hm] at a; exact absurd a spill_ne_reg
    · exact b
  have hqo : ∀ p ∈ own, p.2 ≠ q.x := fun p hp e => by
    obtain ⟨u, hu, e1, _, e3⟩ := C.o2i p hp
    rw [one_x C.xnd hu hq (e1.trans e), hm] at e3
    exact absurd e3 spill_ne_reg
  obtain ⟨S1, st1, ops, T, t, P, hg, h0, h1, hr, ho, e1, e2, e3, e4, e5, e6, ⟨f, x, fx, fi, fe, fu, fid⟩, _, hn⟩ := took_sp C hS V (q := q) (all := its) (fun i hi => .inl hi) hqo hks h
  have hq1 : q ∈ S1.its := by
    rw [fi]
    by_cases e : x = q.x
    · rw [fi] at fe; rw [fe e]; exact hq
    · exact upd_mem hq fun e' => e e'.symm
  have hi : upd its' q.x (·.back) = upd S1.its q.x (fun i => (i.held r t).back) := by
    rw [fu, ← fi]
    exact upd_upd (f := (·.held r t)) fun _ => rfl
  have hown := C.own_le h7
  have L := P.lp hown
  have es : S1.spl = sa ++ (q.slot, q.x) :: (sb ++ z) := e4.trans hsp'
  have hC2 := P.core.load (f := fun i => (i.held r t).back) hq1 hm es hr h0 h1 (fun _ => rfl) rfl rfl
  have hV2 := Vals.load (f := fun i => (i.held r t).back) P.core P.vals hq1 hm hr rfl rfl rfl
  have hS2 : SlotsOk S1.low S1.lowest (S1.fs ++ [q.slot]) ((sa ++ (sb ++ z)).map (·.1)) := by
    have := P.slots
    rw [es] at this
    exact this.back
  have p4 := P.cnt4
  have p2 := P.cnt2
  dsimp only at p4 p2
  have hnew : S1.low = low ∨ (S1.low ∈ (sa ++ (sb ++ z)).map (·.1)) := by
    rcases P.deep with h | h
    · exact .inl h
    · by_cases hb : S1.low = low
      · exact .inl hb
      · refine .inr ?_
        rw [es, List.map_append, List.map_cons] at h
        rw [List.map_append]
        rcases List.mem_append.mp h with h | h
        · exact List.mem_append_left _ h
        · rcases List.mem_cons.mp h with h | h
          · have hsl := hS.all q.slot (List.mem_append_right _ (by rw [hsp, List.map_append, List.map_cons]; exact List.mem_append_right _ (.head _)))
            have := P.low
            dsimp only at this h
            omega
          · exact List.mem_append_right _ h
  refine ⟨playF st1 (opD r q tp t3 t4 t5), ops ++ [opD r q tp t3 t4 t5], (tp, tupD r q.slot t3 t4 t5 q.ts) :: T, ⟨?_, ?_, ?_, ?_, ?_, ?_, ?_, ?_, ?_, ?_, ?_, ?_, ?_, ?_, ?_⟩, hg, t, ?_, hwas⟩
  · show Core K.cnt (upd its' q.x (·.back)) own' (sa ++ (sb ++ z))
    rw [hi, ho]; exact hC2
  · rw [← e1, ← e2, ← e3]; exact hS2
  · show Vals (upd its' q.x (·.back)) _
    rw [hi]; exact hV2
  · rw [List.foldl_append, P.play]; rfl
  · show rV' ++ [Value.ref tp] = _
    rw [← e5, P.rows, List.map_append, List.append_assoc]; rfl
  · show _ :: ext' = _
    rw [← e6, P.ext]; rfl
  · intro p hp
    rcases List.mem_append.mp hp with h | h
    · exact .tail _ (P.opsIn p h)
    · rw [List.mem_singleton.mp h]; exact .head _
  · intro p hp
    rcases List.mem_cons.mp hp with rfl | hp
    · exact ⟨_, rfl⟩
    · exact P.tup p hp
  · dsimp only; rw [← e1]; exact hnew
  · have := L.low
    dsimp only at this ⊢; rw [← e1]; exact this
  · have := P.low
    dsimp only at this ⊢; rw [← e1]; exact this
  · rw [List.length_append, List.length_singleton]; omega
  · dsimp only; rw [← e3, List.length_append, List.length_singleton]; omega
  · show (upd its' q.x (·.back)).map (·.x) = its.map (·.x)
    rw [hi, upd_xs (f := fun i => (i.held r t).back) fun _ => rfl]; exact P.xs
  · show (upd its' q.x (·.back)).map (·.dx) = its.map (·.dx)
    rw [hi, upd_dxs (f := fun i => (i.held r t).back) fun _ => rfl]; exact P.dxs
  · rw [hi]
    have := in_upd (x := q.x) (f := fun i => (i.held r t).back) hq1
    rw [if_pos rfl] at this
    exact this
end
end
end
section
open PySem PySem.W PySem.Calls PyProof.Rows PySem.Spec
section
section
variable {w : World} {A₀ : Around} {E : Value → Shared → Prop} {s : Shared} {base h₀ : Heap} {env : Env} {outer : List Env} {L d u : Nat} {m mg mb : Str → Option Value} {loose : List Str} {mean : ExcName → Option Value}
  {K : Kst} {low lowest out : Int} {tl tw tu : Tok} {cN : Nat} {rV : List Value} {rN : Nat} {oO : Obj} {dV : List Value} {dN : Nat} {mO : Obj} {tV : List Value} {tN : Nat} {fV : List Value} {fN : Nat} {sO : Obj} {ext : List (Addr × Obj)}
theorem release_any {Q : Value → Shared → Prop} {IA IB : List IR} {q : IR} {fs : List Int} {own spl : List (Int × Nat)} (C : CT w A₀ base h₀ env outer L d u mg mb loose mean) (hd9 : d < 890) (hu9 : u < 8900) (O : K.Ok) (F : Fr h₀ L s.heap m)
    (N : News h₀ L s.heap (coreL K (cdE K low tl lowest tw out tu) cN rV rN oO dV dN mO tV tN fV fN sO (itL K.h (IA ++ q :: IB) ++ ext))) (W : WFL K (IA ++ q :: IB) ext)
    (hI : IntsAre fV fs) (hfs : fs.length < 1000) (hd : oO.IsDictOf (intK w) (refs own)) (hdV : IntsAre dV (own.map (·.1))) (hoz : own.length < 100) (hs : sO.IsDictOf (intK w) (refs spl)) (hsz : spl.length ≤ 100)
    (hC : Core K.cnt (IA ++ q :: IB) own spl) (hS : SlotsOk low lowest fs (spl.map (·.1)))
    (h : ∀ h' tk oO' dV' dN' sO' fV' fN' fs' own' spl' t1, Fr h₀ L h' m → IntsAre fV' fs' → oO'.IsDictOf (intK w) (refs own') → IntsAre dV' (own'.map (·.1)) → sO'.IsDictOf (intK w) (refs spl') → Core K.cnt (IA ++ IB) own' spl' → SlotsOk low lowest fs' (spl'.map (·.1)) → fs'.length ≤ fs.length + 1 →
      News h₀ L h' (coreL K (cdE K low tl lowest tw out tu) cN rV rN oO' dV' dN' mO tV tN fV' fN' sO' (itL K.h (IA ++ q.gone t1 :: IB) ++ ext)) → WFL K (IA ++ q.gone t1 :: IB) ext →
      Q .none { s with heap := h', toks := tk }) :
    wpAny (model pg w) (AA d u (env :: outer)) (call (.ref 299) [.ref K.c, .ref q.x] []) Q E s := by
  have hm : q ∈ IA ++ q :: IB := List.mem_append_right _ (.head _)
  rcases hC.i2 q hm with ⟨e1, e2⟩ | ⟨e1, _, e2⟩
  · obtain ⟨oa, ob, rfl⟩ := mem_app e2
    have n := hC.ond
    rw [List.map_append, List.map_cons] at n
    obtain ⟨_, n2, n3⟩ := mid_nodup n
    exact release_reg C hd9 hu9 O F N W hI hfs hd hdV hoz hs hsz e1 rfl n2 n3 fun h' tk oO' dV' dN' t1 F' hd' hdV' N' W' => h h' tk oO' dV' dN' sO fV fN fs (oa ++ ob) spl t1 F' hI hd' hdV' hs (hC.dropR e1) hS (Nat.le_succ _) N' W'
  · obtain ⟨sa, sb, rfl⟩ := mem_app e2
    have n := hC.snd
    rw [List.map_append, List.map_cons] at n
    obtain ⟨_, n2, n3⟩ := mid_nodup n
    exact release_spill C hd9 hu9 O F N W hI hfs hd hdV hoz hs hsz e1 rfl n2 n3 fun h' tk sO' fV' fN' t1 F' hI' hs' N' W' => h h' tk oO dV dN sO' fV' fN' (fs ++ [q.slot]) own (sa ++ sb) t1 F' hI' hd hdV hs' (hC.dropS e1) hS.back (by rw [List.length_append]; exact Nat.le_refl _) N' W'
end
end
end
example : True := by
  k_with_none
  (k_with "omega" => first | (with_reducible assumption) | (with_reducible exact Nat.le_of_lt (by assumption)) | (with_reducible exact Nat.ne_of_lt (by assumption)) | (with_reducible exact Nat.ne_of_gt (by assumption)) | exact lt_ble (by with_reducible assumption) rfl | exact le_ble (by with_reducible assumption) rfl | exact le_ble (Nat.le_of_lt (by with_reducible assumption)) rfl | exact le_lt (by with_reducible assumption) rfl | exact lt_add 1 (by with_reducible assumption) rfl | exact Nat.le_of_ble_eq_true rfl)
  (k_with "k_mem" => first | exact List.Mem.head _ | with_reducible assumption | (refine' List.Mem.tail _ ?_; k_mem) | assumption)
  (k_with "k_enter" => first | (refine' code_def ?k1zw ?k2zw ?k3zw ?k4zw ?k5zw ?kAzw ?kFzw ?kKzw ?k6zw ?k7zw ?k8zw ?k9zw ?kBzw ?_ ?c2zw ?c3zw ?c4zw ?c5zw; (case kAzw => exact rfl); (case kFzw => first | exact rfl | assumption); (case kKzw => first | exact rfl | assumption); (case k1zw => k_asm); (case k2zw => k_asm); (case k3zw => k_asm); (case k4zw => k_asm); (case k5zw => k_asm); (case k6zw => k_is); (case k7zw => k_is); (case k8zw => k_room); (case k9zw => first | exact BindsTo.of_eq rfl | exact binds_K (by k_in) rfl (by k_is) rfl rfl rfl | fail "k_enter: no rule for these arguments"); (case c5zw => decide); (case kBzw => exact locs rfl); (case c2zw => exact rfl); (case c3zw => exact rfl); (case c4zw => exact rfl); k_whole; intro g'zw' L'zw' h'zw' FG'zw' F'zw' N'zw' B'zw' X'zw' T'zw'; (try dsimp only); (try k_lift B'zw'); (try k_fold)) | (refine' code_defC ?k1zw ?k2zw ?k3zw ?k4zw ?k5zw ?kAzw ?kFzw ?kKzw ?k6zw ?k7zw ?k8zw ?k9zw ?kBzw ?kDzw ?_ ?c2zw ?c3zw ?c4zw; (case kAzw => exact rfl); (case kFzw => first | exact rfl | assumption); (case kKzw => first | exact rfl | assumption); (case k1zw => k_asm); (case k2zw => k_asm); (case k3zw => k_asm); (case k4zw => k_asm); (case k5zw => k_asm); (case k6zw => k_is); (case k7zw => k_is); (case k8zw => k_room); (case k9zw => first | exact BindsTo.of_eq rfl | exact binds_K (by k_in) rfl (by k_is) rfl rfl rfl | fail "k_enter: no rule for these arguments"); (case kBzw => exact rfl); (case kDzw => decide +kernel); (case c2zw => exact rfl); (case c3zw => exact rfl); (case c4zw => exact rfl); k_whole; intro g'zw' L'zw' h'zw' tk'zw' cells'zw' FG'zw' F'zw' N'zw' Y'zw' B'zw' X'zw' T'zw' l1zw'; (try k_lt l1zw'); k_cells Y'zw'; (try simp only [List.cons_append, List.nil_append] at N'zw'); (try dsimp only); (try k_lift B'zw'); (try k_fold)))
  (k_with "k_room" => ((try simp only [depth_under_make, depth_under_kw, depth_in1, depth_deeper, depth_caller]); (have hrl : recursionLimit = 1000 := rfl); omega))
  (k_with "k_ne" => first | with_reducible assumption | (with_reducible exact Ne.symm (by assumption)) | (refine neN ?_; (try dsimp only); omega))
  (k_with "k_all" => first | with_reducible assumption | exact offAll (by assumption) (by simp [Kst.all]) (by (try dsimp only); omega))
  (k_with "k_put" => (refine' PutR.eq ?zzzw; (case zzzw => repeat (first | exact PutR.head (by rfl) | apply PutR.tail (by rfl)))))
  (k_with "=setAttr ref" => (k_here; k_dflt (refine' set_dict ?k1zw ?k2zw ?k3zw ?k4zw ?k5zw ?k6zw ?k7zw ?k8zw ?k9zw ?k10zw ?k11zw ?k12zw ?k13zw ?_; (case k1zw => k_asm); (case k2zw => k_asm); (case k3zw => k_asm); (case k4zw => k_inst); (case k5zw => exact rfl); (case k6zw => k_is); (case k7zw => k_is); (case k8zw => k_is); (case k9zw => k_is); (case k10zw => k_get); (case k11zw => k_put); (case k12zw => k_upd); (case k13zw => first | exact Nat.le_of_ble_eq_true rfl | ((try simp only [List.length_cons]); omega)); k_whole); intro h'zw' F'zw' N'zw'; (try dsimp only at N'zw'); (try k_sweep)))
  (k_with "=call builtin:len" => (k_here; (with_reducible show wpAny _ _ (call (Value.builtin "len") [Value.ref _]) _ _ _); k_dflt (refine len_L (by k_asm) (by k_mem) (by (try simp only [List.length_append, List.length_cons, List.length_nil]); rfl) (by omega) ?_)))
  (k_with "=call builtin:list.append" => (k_here; (with_reducible show wpAny _ _ (call (Value.builtin _) [Value.ref _, _]) _ _ _); k_dflt (refine' append_L ?k1zw ?k2zw ?k3zw ?zzw ?_; (case k1zw => k_asm); (case k2zw => k_asm); (case k3zw => k_upd); (case zzw => ((try simp only [List.length_append, List.length_cons, List.length_nil]); omega)); k_whole); intro h'zw' F'zw' N'zw'; (try dsimp only at N'zw'); (try k_sweep)))
  (k_with "=call builtin:list.pop" => (k_here; (with_reducible show wpAny _ _ (call (Value.builtin _) [Value.ref _]) _ _ _); k_dflt (refine' pop_last ?k1zw ?k2zw ?k3zw ?zzw ?_; (case k1zw => k_asm); (case k2zw => k_asm); (case k3zw => k_upd); (case zzw => ((try simp only [List.length_append, List.length_cons, List.length_nil]); omega)); k_whole); intro h'zw' F'zw' N'zw'; (try dsimp only at N'zw'); (try k_sweep)))
  (k_with "=call builtin:list.remove" => (k_here; (with_reducible show wpAny _ _ (call (Value.builtin _) [Value.ref _, Value.int _ _]) _ _ _); k_dflt (refine' remove_L ?k1zw ?k2zw ?hazw ?hbzw ?hkzw ?k3zw ?zzw ?_; (case k1zw => k_asm); (case k2zw => k_asm); (case k3zw => k_upd); (case hazw => k_asm); (case hbzw => k_asm); (case hkzw => k_asm); (case zzw => omega); k_whole); intro h'zw' F'zw' N'zw'; (try dsimp only at N'zw'); (try k_sweep)))
  (k_with "=getMethod ref" => (k_here; (with_reducible show wpAny _ _ (getMethod (Value.ref _) (PySem.Str.ofString "remove") _) _ _ _); k_dflt (refine' kl_method ?Nzw ?mzw PySem.F.slot_list_remove PySem.F.type_list_remove ?_; (case Nzw => k_asm); (case mzw => k_mem))))
  (k_with "=compareOp NotIn int ref" => (k_here; k_dflt (refine kdg_notin (knd := intKind _ _) (by k_asm) (by k_mem) (by k_asm) (by first | exact nm_ow (by assumption) | exact nm_sd (by assumption) | exact nm_mp (by assumption) | exact notmod (by omega)) (intKind_is _ _ _ _) _ (by first | assumption | rfl) ?_); (try dsimp only [Bool.not_true, Bool.not_false])))
  (k_with "=compareOp In int ref" => (k_here; k_dflt (refine kda_in (knd := intKind _ _) (by k_asm) (by k_mem) (by k_asm) (by first | exact nm_ow (by assumption) | exact nm_sd (by assumption) | exact nm_mp (by assumption) | exact notmod (by omega)) (intKind_is _ _ _ _) _ (by first | assumption | rfl) ?_)))
  (k_with "=subscriptTail" => (k_here; (with_reducible show wpAny _ _ (subscriptTail _ _ (Value.ref _) (Value.int _ _)) _ _ _); k_dflt (refine kdt_tail (knd := intKind _ _) (by k_asm) (by k_mem) (by k_asm) (kdt_getItem (knd := intKind _ _) (by k_asm) (by k_mem) (by k_asm) (intKind_is _ _ _ _) (by assumption) ?_))))
  (k_with "=subscriptTail Attribute Name Name ref int" => (k_here; k_dflt (refine kdt_tail (knd := intKind _ _) (by k_asm) (by k_mem) (by k_asm) (kdt_getItem (knd := intKind _ _) (by k_asm) (by k_mem) (by k_asm) (intKind_is _ _ _ _) (by assumption) ?_))))
  (k_with "=setItem ref int" => (k_here; k_dflt (refine' kda_set (knd := intKind _ _) ?Fzw ?Nzw ?Uzw ?dzw (intKind_is _ _ _ _) ?zzw ?_; (case Fzw => k_asm); (case Nzw => k_asm); (case Uzw => k_updF); (case dzw => k_asm); (case zzw => exact szOk (by omega))); intro h'zw' o'zw' F'zw' N'zw' hd'zw'; (try dsimp only at N'zw'); (try k_sweep)))
  (k_with "=delItem ref int" => (k_here; k_dflt (refine' kob_del (knd := intKind _ _) ?Fzw ?Nzw ?Uzw ?dzw (intKind_is _ _ _ _) ?lzw ?zzw ?_; (case Fzw => k_asm); (case Nzw => k_asm); (case Uzw => k_updF); (case dzw => k_asm); (case lzw => first | assumption | (simp only [*]; done)); (case zzw => exact szOk (by omega))); intro h'zw' o'zw' F'zw' N'zw' hd'zw'; (try dsimp only at N'zw'); (try k_sweep)))
  (k_with "=getMethod ref" => (k_here; (with_reducible show wpAny _ _ (getMethod (Value.ref _) (PySem.Str.ofString "append") _) _ _ _); k_dflt (refine' kl_method ?Nzw ?mzw PySem.F.slot_list_append PySem.F.type_list_append ?_; (case Nzw => k_asm); (case mzw => k_mem))))
  (k_with "=call ref" => (k_here; k_dflt (refine' call_cls ?k1zw ?k2zw ?k3zw ?k4zw ?k5zw ?k6zw ?_; (case k1zw => k_asm); (case k2zw => k_asm); (case k3zw => k_asm); (case k4zw => k_is); (case k5zw => k_is); (case k6zw => k_is); k_whole; intro x'zw' d'zw' h'zw' F'zw' N'zw' l1zw' l2zw'; (try k_lt l1zw'); (try k_lt2 l2zw'); (try k_sweep); k_enter)))
  (k_with "=call ref" => (k_here; k_dflt (refine wpAny_call ?_; k_enter)))
  (k_with "=getMethod ref" => (k_here; (with_reducible show wpAny _ _ (getMethod (Value.ref _) (Str.ofString "get") _) _ _ _); k_dflt (refine kdg_method (knd := PySem.intKind _ _) (by k_asm) (by k_mem) (by k_asm) ?_)))
  (k_with "=call builtin:dict.get" => (k_here; (with_reducible show wpAny _ _ (call (Value.builtin "dict.get") [Value.ref _, Value.int _ _, _]) _ _ _); k_dflt (refine kdg_get2 (knd := PySem.intKind _ _) (by k_asm) (by k_mem) (by k_asm) (by first | exact nm_ow (by assumption) | exact nm_sd (by assumption) | exact nm_mp (by assumption) | exact notmod (by omega)) (intKind_is _ _ _ _) _ rfl ?_)))
  (k_with "tb_rel" => exact ⟨by assumption, by assumption, by assumption, by first | exact rfl | assumption, by first | exact rfl | assumption, by first | exact lt_add 1 hd9 rfl | exact lt_add 2 hd9 rfl | exact lt_add 3 hd9 rfl | exact lt_add 4 hd9 rfl | exact lt_add 1 hd8 rfl | exact lt_add 2 hd8 rfl | exact lt_add 3 hd8 rfl | exact lt_add 4 hd8 rfl | ((try simp only [depth_under_make, depth_under_kw, depth_in1, depth_deeper, depth_caller]); omega) | decide, by first | exact lt_add 1 hu9 rfl | exact lt_add 2 hu9 rfl | exact lt_add 3 hu9 rfl | exact lt_add 4 hu9 rfl | exact lt_add 5 hu9 rfl | exact lt_add 6 hu9 rfl | exact lt_add 1 hu8 rfl | exact lt_add 2 hu8 rfl | exact lt_add 3 hu8 rfl | exact lt_add 4 hu8 rfl | exact lt_add 5 hu8 rfl | exact lt_add 6 hu8 rfl | ((try simp only [units_in1, units_deeper, units_under_make, units_caller, Around.deeper_units]); omega) | decide⟩)
  (k_with "k_upd" => first | exact upd_cd (by assumption) (by k_all) | exact upd_rw (by assumption) (by k_all) | exact upd_od (by assumption) (by k_all) | exact upd_ft (by assumption) (by k_all) | (refine' upd_core ?azw ?bzw; (case azw => exact off_all (by assumption) (Or.inr (by with_reducible assumption))); (case bzw => k_upd)))
  (k_with "k_updF" => first | exact upd_ow (by assumption) (by k_all) | exact upd_mp (by assumption) (by k_all) | exact upd_sd (by assumption) (by k_all))
  (k_with "k_room" => first | exact room 0 (a := 900) (by with_reducible assumption) rfl | exact room 1 (a := 900) (by with_reducible assumption) rfl | exact room 2 (a := 900) (by with_reducible assumption) rfl | exact room 3 (a := 900) (by with_reducible assumption) rfl | exact room 4 (a := 900) (by with_reducible assumption) rfl | exact room 5 (a := 900) (by with_reducible assumption) rfl | exact room 6 (a := 900) (by with_reducible assumption) rfl)
  (k_with "k_all" => (with_reducible refine List.forall_mem_cons.mpr ⟨Or.inr (by with_reducible assumption), ?_⟩; k_all))
  (k_with "kst" => first | (k_unfold; (try dsimp only)) | (k_end; wrow_close) | walk1 | (dsimp only; walk1) | (leave1; walk_say "STEP leave1"; try dsimp only) | fail "no step")
  trivial
example : True := by
  (k_with "=eval Name" => (k_here; k_dflt (refine' nameX_L ?k1zw ?k2zw ?_ ?k3zw ?k4zw ?k5zw; (case k1zw => k_asm); (case k2zw => assumption); (case k3zw => rfl); (case k4zw => rfl); (case k5zw => decide); k_whole)))
  (k_with "=eval Name" => (k_here; k_dflt (refine' name_blk ?azw ?bzw ?_ ?czw ?dzw ?ezw; (case azw => assumption); (case bzw => assumption); (case czw => rfl); (case dzw => rfl); (case ezw => decide); k_whole)))
  trivial
section
example : True := by first | (w_top off; (fail_if_success walk1); trivial) | trivial
section
open PySem PySem.W PySem.Calls PyProof.Rows
section

section
variable {w : World} {A₀ : Around} {E : Value → Shared → Prop} {s : Shared} {base h₀ : Heap} {fa : Addr} {cdv : Value} {outer : List Env} {L d u : Nat} {m mg mb : Str → Option Value} {loose : List Str} {mean : ExcName → Option Value}
  {X : Fx} {low lowest out : Int} {tl tw tu : Tok} {cN : Nat} {rV : List Value} {rN : Nat} {oO : Obj} {dV : List Value} {dN : Nat} {mO : Obj} {tV : List Value} {tN : Nat} {fV : List Value} {fN : Nat} {sO : Obj}
  {rgO wdO o1 o2 : Obj} {rowV roV : List Value} {lvN rowN roN tnn : Nat} {tes : List DictEntry} {junk : List (Addr × Obj)}
example : True := by
  (k_with "stopL11" => first | (with_reducible show wpAny _ _ (exec (Stmt.Assign [Expr.Name _ _] (Expr.ListComp _ _ _ _) _) _) _ _ _) | (with_reducible show wpAny _ _ (eval (Expr.ListComp _ _ _ _) _) _ _ _) | (with_reducible show AsgGoal _ _ _ _ _ _ _ _ _ _ _ _ _ _ _))
  trivial
set_option maxRecDepth 100000 in
set_option maxHeartbeats 1000000 in
theorem holders_piece {Q : Flow → Shared → Prop} {its : List IR} (C : CT w A₀ base h₀ (lawEnv L fa cdv) outer L d u mg mb loose mean) (O : X.Ok) (F : Fr h₀ L s.heap m) (hlv : m (Str.ofString "live") = some (.ref X.lv))
    (N : News h₀ L s.heap (coreL X.K (cdE X.K low tl lowest tw out tu) cN rV rN oO dV dN mO tV tN fV fN sO (topL X rgO wdO (its.map fun i => Value.ref i.x) lvN rowV rowN o1 o2 roV roN tes tnn (itL X.K.h its ++ junk)))) (hz : its.length ≤ 1000) (hnd : (its.map (·.x)).Nodup)
    (h : ∀ h' tk D n, Fr h₀ L h' (fun y => if y = Str.ofString "holders" then some (.ref D) else m y) → News h₀ L h' (coreL X.K (cdE X.K low tl lowest tw out tu) cN rV rN oO dV dN mO tV tN fV fN sO (topL X rgO wdO (its.map fun i => Value.ref i.x) lvN rowV rowN o1 o2 roV roN tes tnn (itL X.K.h its ++ ((D, listOf ((its.filter (fun i : IR => decide (i.mode = "reg"))).map (fun i : IR => Value.int i.reg i.tr)).toArray n) :: junk)))) → (∀ p ∈ (coreL X.K (cdE X.K low tl lowest tw out tu) cN rV rN oO dV dN mO tV tN fV fN sO (topL X rgO wdO (its.map fun i => Value.ref i.x) lvN rowV rowN o1 o2 roV roN tes tnn (itL X.K.h its ++ junk))), p.1 ≠ D) →
      Q .next { s with heap := h', toks := tk }) :
    wpAny (model pg w) (AA d u (lawEnv L fa cdv :: outer)) (execs (cut 10 1) (lawEnv L fa cdv)) Q E s := by
  have fill : PySem.Challenge.rw_pb0351_01 = PySem.Challenge.rw_pb0351_01 ∧ Mine.hd.heap_1 = Mine.hd.heap_1 := by
    k_fill
    exact ⟨rfl, rfl⟩
  clear fill
  refine hide fun Pz kPz => ?_
  obtain ⟨B, XH, T, hf, hke, hdp, hu⟩ := C
  refine kPz ?_
  clear kPz
  simp only [lawEnv, cut, lawSc, lapB, lawB, lawS, PySem.Challenge.rw_pb0351_01, PySem.Challenge.pw_pb0351_01, OpenLaw.row, nth, lastS, bodyOf, scopeOf, List.drop, List.take] at *
  have hl0 : (X.lv, listOf (its.map fun i => Value.ref i.x).toArray lvN) ∈ (coreL X.K (cdE X.K low tl lowest tw out tu) cN rV rN oO dV dN mO tV tN fV fN sO (topL X rgO wdO (its.map fun i => Value.ref i.x) lvN rowV rowN o1 o2 roV roN tes tnn (itL X.K.h its ++ junk))) := (by k_mem)
  (repeat' ((fail_if_success k_extra "stopL11"); k_extra "kst"))
  refine lc_asg (isP its (fun i : IR => decide (i.mode = "reg"))) (fun v y => ∃ i ∈ its, v = Value.ref i.x ∧ y = ((fun i : IR => Value.int i.reg i.tr)) i) rfl (by rfl) (by decide) rfl (by decide) (by rfl) (by intro _; rfl) (by rfl) (by rfl) (by rfl) ?_
  (repeat' ((fail_if_success k_extra "stopL11"); k_extra "kst"))
  refine items_asg (fun i : IR => decide (i.mode = "reg")) (fun i : IR => Value.int i.reg i.tr) hnd (fun _ h => h) F N hl0 (by omega) ?_ ?_ ?_
  · intro C i s₃ E' hi zr1
    refine hide fun Pz kPz => ?_
    obtain ⟨⟨m₃, hn, hm⟩, F3, N3⟩ := zr1
    refine kPz ?_
    clear kPz
    refine tests_one ?_
    have hq1 : (i.x, instObj 108 i.dx) ∈ itL X.K.h its ++ junk := List.mem_append_left _ (itL_o hi)
    have hq2 : (i.dx, dictOf (itE X.K.h i.t i.v i.mode i.tm i.value i.tv i.reg i.tr i.root i.slot i.ts i.was i.ta) i.n) ∈ itL X.K.h its ++ junk := List.mem_append_left _ (itL_d hi)
    have hq3 : ∀ p ∈ itL X.K.h its ++ junk, p ∈ (coreL X.K (cdE X.K low tl lowest tw out tu) cN rV rN oO dV dN mO tV tN fV fN sO (topL X rgO wdO (its.map fun i => Value.ref i.x) lvN rowV rowN o1 o2 roV roN tes tnn (itL X.K.h its ++ junk))) := fun p hp => by k_mem
    have hq4 := hq3 _ hq1
    have hq5 := hq3 _ hq2
    clear F N
    (try dsimp only at hm ⊢)
    (repeat' ((fail_if_success k_extra "stopL11"); k_extra "kst"))
    exact ⟨_, _, rfl, fun _ _ e => e⟩
  · intro C i s₃ E' hi hq zr1
    refine hide fun Pz kPz => ?_
    obtain ⟨⟨m₃, hn, hm⟩, F3, N3⟩ := zr1
    refine kPz ?_
    clear kPz
    have hq1 : (i.x, instObj 108 i.dx) ∈ itL X.K.h its ++ junk := List.mem_append_left _ (itL_o hi)
    have hq2 : (i.dx, dictOf (itE X.K.h i.t i.v i.mode i.tm i.value i.tv i.reg i.tr i.root i.slot i.ts i.was i.ta) i.n) ∈ itL X.K.h its ++ junk := List.mem_append_left _ (itL_d hi)
    have hq3 : ∀ p ∈ itL X.K.h its ++ junk, p ∈ (coreL X.K (cdE X.K low tl lowest tw out tu) cN rV rN oO dV dN mO tV tN fV fN sO (topL X rgO wdO (its.map fun i => Value.ref i.x) lvN rowV rowN o1 o2 roV roN tes tnn (itL X.K.h its ++ junk))) := fun p hp => by k_mem
    have hq4 := hq3 _ hq1
    have hq5 := hq3 _ hq2
    clear F N
    (try dsimp only at hm ⊢)
    (repeat' ((fail_if_success k_extra "stopL11"); k_extra "kst"))
    exact ⟨_, _, rfl, fun _ _ e => e⟩
  · intro D h' tk n' F' N' hD
    clear F N
    dsimp only
    (repeat' ((fail_if_success k_extra "stopL11"); k_extra "kst"))
    exact h _ _ D _ (by assumption) (to_junk (by assumption)) hD
set_option maxRecDepth 100000 in
set_option maxHeartbeats 1000000 in
theorem slots_piece {Q : Flow → Shared → Prop} {its : List IR} (C : CT w A₀ base h₀ (lawEnv L fa cdv) outer L d u mg mb loose mean) (O : X.Ok) (F : Fr h₀ L s.heap m) (hlv : m (Str.ofString "live") = some (.ref X.lv))
    (N : News h₀ L s.heap (coreL X.K (cdE X.K low tl lowest tw out tu) cN rV rN oO dV dN mO tV tN fV fN sO (topL X rgO wdO (its.map fun i => Value.ref i.x) lvN rowV rowN o1 o2 roV roN tes tnn (itL X.K.h its ++ junk)))) (hz : its.length ≤ 1000) (hnd : (its.map (·.x)).Nodup)
    (h : ∀ h' tk D n, Fr h₀ L h' (fun y => if y = Str.ofString "slots" then some (.ref D) else m y) → News h₀ L h' (coreL X.K (cdE X.K low tl lowest tw out tu) cN rV rN oO dV dN mO tV tN fV fN sO (topL X rgO wdO (its.map fun i => Value.ref i.x) lvN rowV rowN o1 o2 roV roN tes tnn (itL X.K.h its ++ ((D, listOf ((its.filter (fun i : IR => decide (i.mode = "spill"))).map (fun i : IR => Value.int i.slot i.ts)).toArray n) :: junk)))) → (∀ p ∈ (coreL X.K (cdE X.K low tl lowest tw out tu) cN rV rN oO dV dN mO tV tN fV fN sO (topL X rgO wdO (its.map fun i => Value.ref i.x) lvN rowV rowN o1 o2 roV roN tes tnn (itL X.K.h its ++ junk))), p.1 ≠ D) →
      Q .next { s with heap := h', toks := tk }) :
    wpAny (model pg w) (AA d u (lawEnv L fa cdv :: outer)) (execs (cut 11 1) (lawEnv L fa cdv)) Q E s := by
  have fill : PySem.Challenge.rw_pb0351_01 = PySem.Challenge.rw_pb0351_01 ∧ Mine.hd.heap_1 = Mine.hd.heap_1 := by
    k_fill
    exact ⟨rfl, rfl⟩
  clear fill
  refine hide fun Pz kPz => ?_
  obtain ⟨B, XH, T, hf, hke, hdp, hu⟩ := C
  refine kPz ?_
  clear kPz
  simp only [lawEnv, cut, lawSc, lapB, lawB, lawS, PySem.Challenge.rw_pb0351_01, PySem.Challenge.pw_pb0351_01, OpenLaw.row, nth, lastS, bodyOf, scopeOf, List.drop, List.take] at *
  have hl0 : (X.lv, listOf (its.map fun i => Value.ref i.x).toArray lvN) ∈ (coreL X.K (cdE X.K low tl lowest tw out tu) cN rV rN oO dV dN mO tV tN fV fN sO (topL X rgO wdO (its.map fun i => Value.ref i.x) lvN rowV rowN o1 o2 roV roN tes tnn (itL X.K.h its ++ junk))) := (by k_mem)
  (repeat' ((fail_if_success k_extra "stopL11"); k_extra "kst"))
  refine lc_asg (isP its (fun i : IR => decide (i.mode = "spill"))) (fun v y => ∃ i ∈ its, v = Value.ref i.x ∧ y = ((fun i : IR => Value.int i.slot i.ts)) i) rfl (by rfl) (by decide) rfl (by decide) (by rfl) (by intro _; rfl) (by rfl) (by rfl) (by rfl) ?_
  (repeat' ((fail_if_success k_extra "stopL11"); k_extra "kst"))
  refine items_asg (fun i : IR => decide (i.mode = "spill")) (fun i : IR => Value.int i.slot i.ts) hnd (fun _ h => h) F N hl0 (by omega) ?_ ?_ ?_
  · intro C i s₃ E' hi zr1
    refine hide fun Pz kPz => ?_
    obtain ⟨⟨m₃, hn, hm⟩, F3, N3⟩ := zr1
    refine kPz ?_
    clear kPz
    refine tests_one ?_
    have hq1 : (i.x, instObj 108 i.dx) ∈ itL X.K.h its ++ junk := List.mem_append_left _ (itL_o hi)
    have hq2 : (i.dx, dictOf (itE X.K.h i.t i.v i.mode i.tm i.value i.tv i.reg i.tr i.root i.slot i.ts i.was i.ta) i.n) ∈ itL X.K.h its ++ junk := List.mem_append_left _ (itL_d hi)
    have hq3 : ∀ p ∈ itL X.K.h its ++ junk, p ∈ (coreL X.K (cdE X.K low tl lowest tw out tu) cN rV rN oO dV dN mO tV tN fV fN sO (topL X rgO wdO (its.map fun i => Value.ref i.x) lvN rowV rowN o1 o2 roV roN tes tnn (itL X.K.h its ++ junk))) := fun p hp => by k_mem
    have hq4 := hq3 _ hq1
    have hq5 := hq3 _ hq2
    clear F N
    (try dsimp only at hm ⊢)
    (repeat' ((fail_if_success k_extra "stopL11"); k_extra "kst"))
    exact ⟨_, _, rfl, fun _ _ e => e⟩
  · intro C i s₃ E' hi hq zr1
    refine hide fun Pz kPz => ?_
    obtain ⟨⟨m₃, hn, hm⟩, F3, N3⟩ := zr1
    refine kPz ?_
    clear kPz
    have hq1 : (i.x, instObj 108 i.dx) ∈ itL X.K.h its ++ junk := List.mem_append_left _ (itL_o hi)
    have hq2 : (i.dx, dictOf (itE X.K.h i.t i.v i.mode i.tm i.value i.tv i.reg i.tr i.root i.slot i.ts i.was i.ta) i.n) ∈ itL X.K.h its ++ junk := List.mem_append_left _ (itL_d hi)
    have hq3 : ∀ p ∈ itL X.K.h its ++ junk, p ∈ (coreL X.K (cdE X.K low tl lowest tw out tu) cN rV rN oO dV dN mO tV tN fV fN sO (topL X rgO wdO (its.map fun i => Value.ref i.x) lvN rowV rowN o1 o2 roV roN tes tnn (itL X.K.h its ++ junk))) := fun p hp => by k_mem
    have hq4 := hq3 _ hq1
    have hq5 := hq3 _ hq2
    clear F N
    (try dsimp only at hm ⊢)
    (repeat' ((fail_if_success k_extra "stopL11"); k_extra "kst"))
    exact ⟨_, _, rfl, fun _ _ e => e⟩
  · intro D h' tk n' F' N' hD
    clear F N
    dsimp only
    (repeat' ((fail_if_success k_extra "stopL11"); k_extra "kst"))
    exact h _ _ D _ (by assumption) (to_junk (by assumption)) hD
set_option maxRecDepth 100000 in
set_option maxHeartbeats 1000000 in
theorem inside_piece {Q : Flow → Shared → Prop} {its : List IR} (C : CT w A₀ base h₀ (lawEnv L fa cdv) outer L d u mg mb loose mean) (O : X.Ok) (F : Fr h₀ L s.heap m) (hlv : m (Str.ofString "live") = some (.ref X.lv))
    (N : News h₀ L s.heap (coreL X.K (cdE X.K low tl lowest tw out tu) cN rV rN oO dV dN mO tV tN fV fN sO (topL X rgO wdO (its.map fun i => Value.ref i.x) lvN rowV rowN o1 o2 roV roN tes tnn (itL X.K.h its ++ junk)))) (hz : its.length ≤ 1000) (hnd : (its.map (·.x)).Nodup)
    (h : ∀ h' tk D n, Fr h₀ L h' (fun y => if y = Str.ofString "inside" then some (.ref D) else m y) → News h₀ L h' (coreL X.K (cdE X.K low tl lowest tw out tu) cN rV rN oO dV dN mO tV tN fV fN sO (topL X rgO wdO (its.map fun i => Value.ref i.x) lvN rowV rowN o1 o2 roV roN tes tnn (itL X.K.h its ++ ((D, listOf ((its.filter (fun i : IR => decide (i.mode = "reg"))).map (fun i : IR => Value.ref i.x)).toArray n) :: junk)))) → (∀ p ∈ (coreL X.K (cdE X.K low tl lowest tw out tu) cN rV rN oO dV dN mO tV tN fV fN sO (topL X rgO wdO (its.map fun i => Value.ref i.x) lvN rowV rowN o1 o2 roV roN tes tnn (itL X.K.h its ++ junk))), p.1 ≠ D) →
      Q .next { s with heap := h', toks := tk }) :
    wpAny (model pg w) (AA d u (lawEnv L fa cdv :: outer)) (execs (cut 1 1) (lawEnv L fa cdv)) Q E s := by
  have fill : PySem.Challenge.rw_pb0351_01 = PySem.Challenge.rw_pb0351_01 ∧ Mine.hd.heap_1 = Mine.hd.heap_1 := by
    k_fill
    exact ⟨rfl, rfl⟩
  clear fill
  refine hide fun Pz kPz => ?_
  obtain ⟨B, XH, T, hf, hke, hdp, hu⟩ := C
  refine kPz ?_
  clear kPz
  simp only [lawEnv, cut, lawSc, lapB, lawB, lawS, PySem.Challenge.rw_pb0351_01, PySem.Challenge.pw_pb0351_01, OpenLaw.row, nth, lastS, bodyOf, scopeOf, List.drop, List.take] at *
  have hl0 : (X.lv, listOf (its.map fun i => Value.ref i.x).toArray lvN) ∈ (coreL X.K (cdE X.K low tl lowest tw out tu) cN rV rN oO dV dN mO tV tN fV fN sO (topL X rgO wdO (its.map fun i => Value.ref i.x) lvN rowV rowN o1 o2 roV roN tes tnn (itL X.K.h its ++ junk))) := (by k_mem)
  (repeat' ((fail_if_success k_extra "stopL11"); k_extra "kst"))
  refine lc_asg (isP its (fun i : IR => decide (i.mode = "reg"))) (fun v y => ∃ i ∈ its, v = Value.ref i.x ∧ y = ((fun i : IR => Value.ref i.x)) i) rfl (by rfl) (by decide) rfl (by decide) (by rfl) (by intro _; rfl) (by rfl) (by rfl) (by rfl) ?_
  (repeat' ((fail_if_success k_extra "stopL11"); k_extra "kst"))
  refine items_asg (fun i : IR => decide (i.mode = "reg")) (fun i : IR => Value.ref i.x) hnd (fun _ h => h) F N hl0 (by omega) ?_ ?_ ?_
  · intro C i s₃ E' hi zr1
    refine hide fun Pz kPz => ?_
    obtain ⟨⟨m₃, hn, hm⟩, F3, N3⟩ := zr1
    refine kPz ?_
    clear kPz
    refine tests_one ?_
    have hq1 : (i.x, instObj 108 i.dx) ∈ itL X.K.h its ++ junk := List.mem_append_left _ (itL_o hi)
    have hq2 : (i.dx, dictOf (itE X.K.h i.t i.v i.mode i.tm i.value i.tv i.reg i.tr i.root i.slot i.ts i.was i.ta) i.n) ∈ itL X.K.h its ++ junk := List.mem_append_left _ (itL_d hi)
    have hq3 : ∀ p ∈ itL X.K.h its ++ junk, p ∈ (coreL X.K (cdE X.K low tl lowest tw out tu) cN rV rN oO dV dN mO tV tN fV fN sO (topL X rgO wdO (its.map fun i => Value.ref i.x) lvN rowV rowN o1 o2 roV roN tes tnn (itL X.K.h its ++ junk))) := fun p hp => by k_mem
    have hq4 := hq3 _ hq1
    have hq5 := hq3 _ hq2
    clear F N
    (try dsimp only at hm ⊢)
    (repeat' ((fail_if_success k_extra "stopL11"); k_extra "kst"))
    exact ⟨_, _, rfl, fun _ _ e => e⟩
  · intro C i s₃ E' hi hq zr1
    refine hide fun Pz kPz => ?_
    obtain ⟨⟨m₃, hn, hm⟩, F3, N3⟩ := zr1
    refine kPz ?_
    clear kPz
    have hq1 : (i.x, instObj 108 i.dx) ∈ itL X.K.h its ++ junk := List.mem_append_left _ (itL_o hi)
    have hq2 : (i.dx, dictOf (itE X.K.h i.t i.v i.mode i.tm i.value i.tv i.reg i.tr i.root i.slot i.ts i.was i.ta) i.n) ∈ itL X.K.h its ++ junk := List.mem_append_left _ (itL_d hi)
    have hq3 : ∀ p ∈ itL X.K.h its ++ junk, p ∈ (coreL X.K (cdE X.K low tl lowest tw out tu) cN rV rN oO dV dN mO tV tN fV fN sO (topL X rgO wdO (its.map fun i => Value.ref i.x) lvN rowV rowN o1 o2 roV roN tes tnn (itL X.K.h its ++ junk))) := fun p hp => by k_mem
    have hq4 := hq3 _ hq1
    have hq5 := hq3 _ hq2
    clear F N
    (try dsimp only at hm ⊢)
    (repeat' ((fail_if_success k_extra "stopL11"); k_extra "kst"))
    exact ⟨_, _, rfl, fun _ _ e => e⟩
  · intro D h' tk n' F' N' hD
    clear F N
    dsimp only
    (repeat' ((fail_if_success k_extra "stopL11"); k_extra "kst"))
    exact h _ _ D _ (by assumption) (to_junk (by assumption)) hD
end
end
end
example : True := by first | (w_top off; (fail_if_success walk1); trivial) | trivial
section
open PySem PySem.W PySem.Calls PyProof.Rows
section

section
variable {w : World} {A₀ : Around} {E : Value → Shared → Prop} {s : Shared} {base h₀ : Heap} {fa : Addr} {cdv : Value} {outer : List Env} {L d u : Nat} {m mg mb : Str → Option Value} {loose : List Str} {mean : ExcName → Option Value}
  {X : Fx} {low lowest out : Int} {tl tw tu : Tok} {cN : Nat} {rV : List Value} {rN : Nat} {oO : Obj} {dV : List Value} {dN : Nat} {mO : Obj} {tV : List Value} {tN : Nat} {fV : List Value} {fN : Nat} {sO : Obj}
  {rgO wdO o1 o2 : Obj} {rowV roV : List Value} {lvN rowN roN tnn : Nat} {tes : List DictEntry} {junk : List (Addr × Obj)}
example : True := by
  (k_with "stopL21" => first | (with_reducible show wpAny _ _ (call (Value.builtin "sorted") _ _) _ _ _) | (with_reducible show wpAny _ _ (compareOp _ (Value.ref _) (Value.ref _)) _ _ _) | (with_reducible show wpAny _ _ (eval (Expr.ListComp _ _ _ _) _) _ _ _) | (with_reducible show wpAny _ _ (eval (Expr.DictComp _ _ _ _ _) _) _ _ _) | (with_reducible show ∃ _, _) | (with_reducible show wpAny _ _ (call (Value.builtin "len") _ _) _ _ _))
  trivial
theorem ints_map (f : IR → Int) (t : IR → Tok) : ∀ l : List IR, IntsAre (l.map fun i => Value.int (f i) (t i)) (l.map f)
  | [] => .nil
  | i :: l => .cons _ _ (ints_map f t l)
set_option maxRecDepth 100000 in
set_option maxHeartbeats 1000000 in
theorem sorted_piece {Q : Flow → Shared → Prop} {its : List IR} {own spl : List (Int × Nat)} {Dh n : Nat} (C : CT w A₀ base h₀ (lawEnv L fa cdv) outer L d u mg mb loose mean) (O : X.Ok) (F : Fr h₀ L s.heap m) (hhd : m (Str.ofString "holders") = some (.ref Dh)) (hco : m (Str.ofString "coder") = some (.ref X.K.c))
    (N : News h₀ L s.heap (coreL X.K (cdE X.K low tl lowest tw out tu) cN rV rN oO dV dN mO tV tN fV fN sO (topL X rgO wdO (its.map fun i => Value.ref i.x) lvN rowV rowN o1 o2 roV roN tes tnn (itL X.K.h its ++ junk)))) (hDh : (Dh, listOf (List.toArray ((its.filter (fun i : IR => decide (i.mode = "reg"))).map (fun i : IR => Value.int i.reg i.tr))) n) ∈ junk) (hC : Core X.K.cnt its own spl) (ho : oO.IsDictOf (intK w) (refs own))
    (h : ∀ h' tk, Fr h₀ L h' m → News h₀ L h' (coreL X.K (cdE X.K low tl lowest tw out tu) cN rV rN oO dV dN mO tV tN fV fN sO (topL X rgO wdO (its.map fun i => Value.ref i.x) lvN rowV rowN o1 o2 roV roN tes tnn (itL X.K.h its ++ junk))) → Q .next { s with heap := h', toks := tk }) :
    wpAny (model pg w) (AA d u (lawEnv L fa cdv :: outer)) (execs (cut 12 1) (lawEnv L fa cdv)) Q E s := by
  have fill : PySem.Challenge.rw_pb0351_01 = PySem.Challenge.rw_pb0351_01 ∧ Mine.hd.heap_1 = Mine.hd.heap_1 := by
    k_fill
    exact ⟨rfl, rfl⟩
  clear fill
  refine hide fun Pz kPz => ?_
  obtain ⟨B, XH, T, hf, hke, hdp, hu⟩ := C
  refine kPz ?_
  clear kPz
  simp only [lawEnv, cut, lawSc, lapB, lawB, lawS, PySem.Challenge.rw_pb0351_01, PySem.Challenge.pw_pb0351_01, OpenLaw.row, nth, lastS, bodyOf, scopeOf, List.drop, List.take] at *
  have hp0 := hC.held_perm
  have hown := hC.own_le O.O.c1
  have hpi : (List.map (fun i : IR => i.reg) (its.filter (fun i : IR => decide (i.mode = "reg")))).Perm (own.map (·.1)) := by
    have := hp0.map (·.1)
    rw [List.map_map] at this
    exact this
  have hIh := ints_map (·.reg) (·.tr) (its.filter (fun i : IR => decide (i.mode = "reg")))
  have hlen : (its.filter (fun i : IR => decide (i.mode = "reg"))).length ≤ 7 := by
    have e := hpi.length_eq
    rw [List.length_map, List.length_map] at e
    exact e ▸ hown
  have hm0 : (Dh, listOf (List.toArray ((its.filter (fun i : IR => decide (i.mode = "reg"))).map (fun i : IR => Value.int i.reg i.tr))) n) ∈ (coreL X.K (cdE X.K low tl lowest tw out tu) cN rV rN oO dV dN mO tV tN fV fN sO (topL X rgO wdO (its.map fun i => Value.ref i.x) lvN rowV rowN o1 o2 roV roN tes tnn (itL X.K.h its ++ junk))) := by
    have : (Dh, listOf (List.toArray ((its.filter (fun i : IR => decide (i.mode = "reg"))).map (fun i : IR => Value.int i.reg i.tr))) n) ∈ itL X.K.h its ++ junk := List.mem_append_right _ hDh
    k_mem
  (repeat' ((fail_if_success k_extra "stopL21"); k_extra "kst"))
  (try dsimp only)
  refine kso_sorted F N (News.isList N hm0) hIh (by rw [List.length_map]; omega) ?_
  intro D1 v1 n1 c1 h1 F1 N1 l1 i1 e1 p1 o1' _
  clear F N
  have hm1 := List.Mem.tail (D1, listOf (List.toArray v1) c1) hm0
  (repeat' ((fail_if_success k_extra "stopL21"); k_extra "kst"))
  (try dsimp only)
  refine sorted_dict rfl F1 N1 (by k_mem) ho (nm_ow O.O) (by rw [refs_len]; omega) ?_
  intro D2 v2 n2 c2 h2 tk2 F2 N2 l2 i2 p2 o2'
  clear F1 N1
  have hm2 := List.Mem.tail (D2, listOf (List.toArray v2) c2) hm1
  rw [refs_keys] at p2
  have enn : n1 = n2 := ksm_same (p1.trans (hpi.trans p2.symm)) o1' o2'
  subst enn
  (repeat' ((fail_if_success k_extra "stopL21"); k_extra "kst"))
  (try dsimp only)
  refine ne_intsK (News.isList N2 (.tail _ (.head _))) i1 (News.isList N2 (.head _)) i2 ?hu ?_
  case hu => exact Nat.lt_of_lt_of_le (Nat.add_lt_add_right hu 64) (by decide)
  rw [decide_eq_true rfl]
  (try dsimp only [Bool.not_true])
  (repeat' ((fail_if_success k_extra "stopL21"); k_extra "kst"))
  refine dc_eval (fun _ _ => True) rfl (by rfl) (by decide) rfl (by decide) (by rfl) (by intro _; rfl) ?_
  (repeat' ((fail_if_success k_extra "stopL21"); k_extra "kst"))
  refine ⟨Dh, _, _, n, _, _, _, rfl, has_sys T, hIh, hpi.nodup_iff.mpr hC.ond, F2, N2, hm2, by rw [List.length_map]; omega, ?_, ?_, ?_⟩
  · intro C v s₃ E' hv zr1
    refine hide fun Pz kPz => ?_
    obtain ⟨⟨m₃, hn, hm⟩, F3, N3⟩ := zr1
    refine kPz ?_
    clear kPz
    clear F2 N2
    refine hide fun Pz kPz => ?_
    obtain ⟨k, t, rfl, _⟩ := ints_mem hIh hv
    refine kPz ?_
    clear kPz
    (try dsimp only at hm ⊢)
    (repeat' ((fail_if_success k_extra "stopL21"); k_extra "kst"))
    exact ⟨_, _, rfl, fun _ _ e => e⟩
  · intro C v s₃ E' hv zr1
    refine hide fun Pz kPz => ?_
    obtain ⟨⟨m₃, hn, hm⟩, F3, N3⟩ := zr1
    refine kPz ?_
    clear kPz
    clear F2 N2
    (repeat' ((fail_if_success k_extra "stopL21"); k_extra "kst"))
    · exact trivial
    · exact ⟨_, _, rfl, fun _ _ e => e⟩
  · intro D3 o3 h3 tk3 kvs F3 N3 ho3 hk3 hlo3
    clear F2 N2
    have hm3 := List.Mem.tail (D3, o3) hm2
    have hkl : kvs.length = (its.filter (fun i : IR => decide (i.mode = "reg"))).length := by
      have e := congrArg List.length hk3
      rwa [List.length_map, List.length_map] at e
    (try dsimp only)
    (repeat' ((fail_if_success k_extra "stopL21"); k_extra "kst"))
    (try dsimp only)
    refine kda_len (knd := intKind _ _) N3 (.head _) ho3 hlo3 (by omega) ?_
    (repeat' ((fail_if_success k_extra "stopL21"); k_extra "kst"))
    (try dsimp only)
    refine len_L N3 hm3 (n := (its.filter (fun i : IR => decide (i.mode = "reg"))).length) (by rw [List.length_map]) (by omega) ?_
    rw [hkl]
    (repeat' ((fail_if_success k_extra "stopL21"); k_extra "kst"))
    · rename _ ≠ _ => hc
      exact absurd rfl hc
    · exact h _ _ (by assumption) (News.sub (by assumption) fun p hp => .tail _ (.tail _ (.tail _ hp)))
end
end
end
example : True := by first | (w_top off; (fail_if_success walk1); trivial) | trivial
section
open PySem PySem.W PySem.Calls PyProof.Rows
section

section
variable {w : World} {A₀ : Around} {E : Value → Shared → Prop} {s : Shared} {base h₀ : Heap} {fa : Addr} {cdv : Value} {outer : List Env} {L d u : Nat} {m mg mb : Str → Option Value} {loose : List Str} {mean : ExcName → Option Value}
  {X : Fx} {low lowest out : Int} {tl tw tu : Tok} {cN : Nat} {rV : List Value} {rN : Nat} {oO : Obj} {dV : List Value} {dN : Nat} {mO : Obj} {tV : List Value} {tN : Nat} {fV : List Value} {fN : Nat} {sO : Obj}
  {rgO wdO o1 o2 : Obj} {rowV roV : List Value} {lvN rowN roN tnn : Nat} {tes : List DictEntry} {junk : List (Addr × Obj)}
example : True := by
  (k_with "stopL31" => first | (with_reducible show wpAny _ _ (compareOp _ (Value.ref _) (Value.ref _)) _ _ _) | (with_reducible show wpAny _ _ (eval (Expr.ListComp _ _ _ _) _) _ _ _) | (with_reducible show wpAny _ _ (eval (Expr.DictComp _ _ _ _ _) _) _ _ _) | (with_reducible show ∃ _, _) | (with_reducible show wpAny _ _ (call (Value.builtin "len") _ _) _ _ _) | (with_reducible show CompGoal _ _ _ _ _ _ _ _ _ _ _ _ _ _))
  trivial
set_option maxRecDepth 100000 in
set_option maxHeartbeats 1000000 in
theorem slotok_piece {Q : Flow → Shared → Prop} {its : List IR} {own spl : List (Int × Nat)} {Dh n : Nat} {fs : List Int} (C : CT w A₀ base h₀ (lawEnv L fa cdv) outer L d u mg mb loose mean) (O : X.Ok) (F : Fr h₀ L s.heap m) (hhd : m (Str.ofString "slots") = some (.ref Dh))
    (N : News h₀ L s.heap (coreL X.K (cdE X.K low tl lowest tw out tu) cN rV rN oO dV dN mO tV tN fV fN sO (topL X rgO wdO (its.map fun i => Value.ref i.x) lvN rowV rowN o1 o2 roV roN tes tnn (itL X.K.h its ++ junk)))) (hDh : (Dh, listOf (List.toArray ((its.filter (fun i : IR => decide (i.mode = "spill"))).map (fun i : IR => Value.int i.slot i.ts))) n) ∈ junk) (hC : Core X.K.cnt its own spl) (hS : SlotsOk low lowest fs (spl.map (·.1))) (hz : its.length ≤ 1000)
    (h : ∀ h' tk, Fr h₀ L h' m → News h₀ L h' (coreL X.K (cdE X.K low tl lowest tw out tu) cN rV rN oO dV dN mO tV tN fV fN sO (topL X rgO wdO (its.map fun i => Value.ref i.x) lvN rowV rowN o1 o2 roV roN tes tnn (itL X.K.h its ++ junk))) → Q .next { s with heap := h', toks := tk }) :
    wpAny (model pg w) (AA d u (lawEnv L fa cdv :: outer)) (execs (cut 13 1) (lawEnv L fa cdv)) Q E s := by
  have fill : PySem.Challenge.rw_pb0351_01 = PySem.Challenge.rw_pb0351_01 ∧ Mine.hd.heap_1 = Mine.hd.heap_1 := by
    k_fill
    exact ⟨rfl, rfl⟩
  clear fill
  refine hide fun Pz kPz => ?_
  obtain ⟨B, XH, T, hf, hke, hdp, hu⟩ := C
  refine kPz ?_
  clear kPz
  simp only [lawEnv, cut, lawSc, lapB, lawB, lawS, PySem.Challenge.rw_pb0351_01, PySem.Challenge.pw_pb0351_01, OpenLaw.row, nth, lastS, bodyOf, scopeOf, List.drop, List.take] at *
  have hp0 := hC.spl_perm
  have hpi : (List.map (fun i : IR => i.slot) (its.filter (fun i : IR => decide (i.mode = "spill")))).Perm (spl.map (·.1)) := by
    have := hp0.map (·.1)
    rw [List.map_map] at this
    exact this
  have hIh := ints_map (·.slot) (·.ts) (its.filter (fun i : IR => decide (i.mode = "spill")))
  have hlen : (its.filter (fun i : IR => decide (i.mode = "spill"))).length ≤ 1000 := Nat.le_trans (List.length_filter_le _ _) hz
  have hm0 : (Dh, listOf (List.toArray ((its.filter (fun i : IR => decide (i.mode = "spill"))).map (fun i : IR => Value.int i.slot i.ts))) n) ∈ (coreL X.K (cdE X.K low tl lowest tw out tu) cN rV rN oO dV dN mO tV tN fV fN sO (topL X rgO wdO (its.map fun i => Value.ref i.x) lvN rowV rowN o1 o2 roV roN tes tnn (itL X.K.h its ++ junk))) := by
    have : (Dh, listOf (List.toArray ((its.filter (fun i : IR => decide (i.mode = "spill"))).map (fun i : IR => Value.int i.slot i.ts))) n) ∈ itL X.K.h its ++ junk := List.mem_append_right _ hDh
    k_mem
  (repeat' ((fail_if_success k_extra "stopL31"); k_extra "kst"))
  refine dc_eval (fun _ _ => True) rfl (by rfl) (by decide) rfl (by decide) (by rfl) (by intro _; rfl) ?_
  (repeat' ((fail_if_success k_extra "stopL31"); k_extra "kst"))
  refine ⟨Dh, _, _, n, _, _, _, rfl, has_sys T, hIh, hpi.nodup_iff.mpr hC.snd, F, N, hm0, by rw [List.length_map]; omega, ?_, ?_, ?_⟩
  · intro C v s₃ E' hv zr1
    refine hide fun Pz kPz => ?_
    obtain ⟨⟨m₃, hn, hm⟩, F3, N3⟩ := zr1
    refine kPz ?_
    clear kPz
    clear F N
    refine hide fun Pz kPz => ?_
    obtain ⟨k, t, rfl, _⟩ := ints_mem hIh hv
    refine kPz ?_
    clear kPz
    (try dsimp only at hm ⊢)
    (repeat' ((fail_if_success k_extra "stopL31"); k_extra "kst"))
    exact ⟨_, _, rfl, fun _ _ e => e⟩
  · intro C v s₃ E' hv zr1
    refine hide fun Pz kPz => ?_
    obtain ⟨⟨m₃, hn, hm⟩, F3, N3⟩ := zr1
    refine kPz ?_
    clear kPz
    clear F N
    (repeat' ((fail_if_success k_extra "stopL31"); k_extra "kst"))
    · exact trivial
    · exact ⟨_, _, rfl, fun _ _ e => e⟩
  · intro D3 o3 h3 tk3 kvs F3 N3 ho3 hk3 hlo3
    clear F N
    have hm3 := List.Mem.tail (D3, o3) hm0
    have hkl : kvs.length = (its.filter (fun i : IR => decide (i.mode = "spill"))).length := by
      have e := congrArg List.length hk3
      rwa [List.length_map, List.length_map] at e
    (try dsimp only)
    (repeat' ((fail_if_success k_extra "stopL31"); k_extra "kst"))
    (try dsimp only)
    refine kda_len (knd := intKind _ _) N3 (.head _) ho3 hlo3 (by omega) ?_
    (repeat' ((fail_if_success k_extra "stopL31"); k_extra "kst"))
    (try dsimp only)
    refine len_L N3 hm3 (n := (its.filter (fun i : IR => decide (i.mode = "spill"))).length) (by rw [List.length_map]) (by omega) ?_
    rw [hkl]
    (repeat' ((fail_if_success k_extra "stopL31"); k_extra "kst"))
    · rename _ ≠ _ => hc
      exact absurd rfl hc
    · refine lc_eval (fun v => match v with | .int k _ => decide (k.fmod 4 ≠ 0) || decide (-20 < k) | _ => false) (fun v y => y = v) rfl (by rfl) (by decide) rfl (by decide) (by rfl) (by intro _; rfl) ?_
      (repeat' ((fail_if_success k_extra "stopL31"); k_extra "kst"))
      refine ⟨Dh, _, n, _, _, _, rfl, F3, N3, hm3, by rw [List.length_map]; omega, ?_, ?_, ?_⟩
      · intro C v s₃ E' hv zr1
        refine hide fun Pz kPz => ?_
        obtain ⟨⟨m₃, hn, hm⟩, F4, N4⟩ := zr1
        refine kPz ?_
        clear kPz
        refine hide fun Pz kPz => ?_
        obtain ⟨k, t, rfl, _⟩ := ints_mem hIh hv
        refine kPz ?_
        clear kPz
        refine tests_one ?_
        clear F3 N3
        (try dsimp only at hm ⊢)
        (repeat' ((fail_if_success k_extra "stopL31"); k_extra "kst"))
        all_goals first | exact ⟨_, _, rfl, fun _ _ e => e⟩ | (simp [*]; done)
      · intro C v s₃ E' hv hp zr1
        refine hide fun Pz kPz => ?_
        obtain ⟨⟨m₃, hn, hm⟩, F4, N4⟩ := zr1
        refine kPz ?_
        clear kPz
        clear F3 N3
        (try dsimp only at hm ⊢)
        (repeat' ((fail_if_success k_extra "stopL31"); k_extra "kst"))
        exact ⟨_, _, rfl, fun _ _ e => e⟩
      · intro D h' tk ys n' F' N' hD hp
        clear F3 N3
        rw [List.filter_eq_nil_iff.mpr (fun v hv => ?hbad)] at hp
        case hbad =>
          refine hide fun Pz kPz => ?_
          obtain ⟨k, t, rfl, hk⟩ := ints_mem hIh hv
          refine kPz ?_
          clear kPz
          obtain ⟨_, hk2, hk3⟩ := hS.all k (List.mem_append_right _ (hpi.mem_iff.mp hk))
          have e : k.fmod 4 = 0 := by rw [Int.fmod_eq_emod_of_nonneg _ (by decide)]; exact hk3
          have e2 : ¬ (-20 < k) := Int.not_lt.mpr hk2
          simp [e, e2]
        cases hp
        (repeat' ((fail_if_success k_extra "stopL31"); k_extra "kst"))
        rename News _ _ _ _ => NZ
        refine ne_intsK (ns := []) (ms := []) (News.isList NZ (.tail _ (.head _))) .nil (News.isList NZ (.head _)) .nil (Nat.lt_of_lt_of_le (Nat.add_lt_add_right hu 64) (by decide)) ?_
        rw [decide_eq_true rfl]
        (repeat' ((fail_if_success k_extra "stopL31"); k_extra "kst"))
        exact h _ _ (by assumption) (News.sub (by assumption) fun p hp => .tail _ (.tail _ (.tail _ hp)))
end
end
end
end
example : True := by
  k_with_none
  (k_with "omega" => first | (with_reducible assumption) | (with_reducible exact Nat.le_of_lt (by assumption)) | (with_reducible exact Nat.ne_of_lt (by assumption)) | (with_reducible exact Nat.ne_of_gt (by assumption)) | exact lt_ble (by with_reducible assumption) rfl | exact le_ble (by with_reducible assumption) rfl | exact le_ble (Nat.le_of_lt (by with_reducible assumption)) rfl | exact le_lt (by with_reducible assumption) rfl | exact lt_add 1 (by with_reducible assumption) rfl | exact Nat.le_of_ble_eq_true rfl)
  (k_with "k_mem" => first | exact List.Mem.head _ | with_reducible assumption | (refine' List.Mem.tail _ ?_; k_mem) | assumption)
  (k_with "k_enter" => first | (refine' code_def ?k1zw ?k2zw ?k3zw ?k4zw ?k5zw ?kAzw ?kFzw ?kKzw ?k6zw ?k7zw ?k8zw ?k9zw ?kBzw ?_ ?c2zw ?c3zw ?c4zw ?c5zw; (case kAzw => exact rfl); (case kFzw => first | exact rfl | assumption); (case kKzw => first | exact rfl | assumption); (case k1zw => k_asm); (case k2zw => k_asm); (case k3zw => k_asm); (case k4zw => k_asm); (case k5zw => k_asm); (case k6zw => k_is); (case k7zw => k_is); (case k8zw => k_room); (case k9zw => first | exact BindsTo.of_eq rfl | exact binds_K (by k_in) rfl (by k_is) rfl rfl rfl | fail "k_enter: no rule for these arguments"); (case c5zw => decide); (case kBzw => exact locs rfl); (case c2zw => exact rfl); (case c3zw => exact rfl); (case c4zw => exact rfl); k_whole; intro g'zw' L'zw' h'zw' FG'zw' F'zw' N'zw' B'zw' X'zw' T'zw'; (try dsimp only); (try k_lift B'zw'); (try k_fold)) | (refine' code_defC ?k1zw ?k2zw ?k3zw ?k4zw ?k5zw ?kAzw ?kFzw ?kKzw ?k6zw ?k7zw ?k8zw ?k9zw ?kBzw ?kDzw ?_ ?c2zw ?c3zw ?c4zw; (case kAzw => exact rfl); (case kFzw => first | exact rfl | assumption); (case kKzw => first | exact rfl | assumption); (case k1zw => k_asm); (case k2zw => k_asm); (case k3zw => k_asm); (case k4zw => k_asm); (case k5zw => k_asm); (case k6zw => k_is); (case k7zw => k_is); (case k8zw => k_room); (case k9zw => first | exact BindsTo.of_eq rfl | exact binds_K (by k_in) rfl (by k_is) rfl rfl rfl | fail "k_enter: no rule for these arguments"); (case kBzw => exact rfl); (case kDzw => decide +kernel); (case c2zw => exact rfl); (case c3zw => exact rfl); (case c4zw => exact rfl); k_whole; intro g'zw' L'zw' h'zw' tk'zw' cells'zw' FG'zw' F'zw' N'zw' Y'zw' B'zw' X'zw' T'zw' l1zw'; (try k_lt l1zw'); k_cells Y'zw'; (try simp only [List.cons_append, List.nil_append] at N'zw'); (try dsimp only); (try k_lift B'zw'); (try k_fold)))
  (k_with "k_room" => ((try simp only [depth_under_make, depth_under_kw, depth_in1, depth_deeper, depth_caller]); (have hrl : recursionLimit = 1000 := rfl); omega))
  (k_with "k_ne" => first | with_reducible assumption | (with_reducible exact Ne.symm (by assumption)) | (refine neN ?_; (try dsimp only); omega))
  (k_with "k_all" => first | with_reducible assumption | exact offAll (by assumption) (by simp [Kst.all]) (by (try dsimp only); omega))
  (k_with "k_put" => (refine' PutR.eq ?zzzw; (case zzzw => repeat (first | exact PutR.head (by rfl) | apply PutR.tail (by rfl)))))
  (k_with "=setAttr ref" => (k_here; k_dflt (refine' set_dict ?k1zw ?k2zw ?k3zw ?k4zw ?k5zw ?k6zw ?k7zw ?k8zw ?k9zw ?k10zw ?k11zw ?k12zw ?k13zw ?_; (case k1zw => k_asm); (case k2zw => k_asm); (case k3zw => k_asm); (case k4zw => k_inst); (case k5zw => exact rfl); (case k6zw => k_is); (case k7zw => k_is); (case k8zw => k_is); (case k9zw => k_is); (case k10zw => k_get); (case k11zw => k_put); (case k12zw => k_upd); (case k13zw => first | exact Nat.le_of_ble_eq_true rfl | ((try simp only [List.length_cons]); omega)); k_whole); intro h'zw' F'zw' N'zw'; (try dsimp only at N'zw'); (try k_sweep)))
  (k_with "=call builtin:len" => (k_here; (with_reducible show wpAny _ _ (call (Value.builtin "len") [Value.ref _]) _ _ _); k_dflt (refine len_L (by k_asm) (by k_mem) (by (try simp only [List.length_append, List.length_cons, List.length_nil]); rfl) (by omega) ?_)))
  (k_with "=call builtin:list.append" => (k_here; (with_reducible show wpAny _ _ (call (Value.builtin _) [Value.ref _, _]) _ _ _); k_dflt (refine' append_L ?k1zw ?k2zw ?k3zw ?zzw ?_; (case k1zw => k_asm); (case k2zw => k_asm); (case k3zw => k_upd); (case zzw => ((try simp only [List.length_append, List.length_cons, List.length_nil]); omega)); k_whole); intro h'zw' F'zw' N'zw'; (try dsimp only at N'zw'); (try k_sweep)))
  (k_with "=call builtin:list.pop" => (k_here; (with_reducible show wpAny _ _ (call (Value.builtin _) [Value.ref _]) _ _ _); k_dflt (refine' pop_last ?k1zw ?k2zw ?k3zw ?zzw ?_; (case k1zw => k_asm); (case k2zw => k_asm); (case k3zw => k_upd); (case zzw => ((try simp only [List.length_append, List.length_cons, List.length_nil]); omega)); k_whole); intro h'zw' F'zw' N'zw'; (try dsimp only at N'zw'); (try k_sweep)))
  (k_with "=call builtin:list.remove" => (k_here; (with_reducible show wpAny _ _ (call (Value.builtin _) [Value.ref _, Value.int _ _]) _ _ _); k_dflt (refine' remove_L ?k1zw ?k2zw ?hazw ?hbzw ?hkzw ?k3zw ?zzw ?_; (case k1zw => k_asm); (case k2zw => k_asm); (case k3zw => k_upd); (case hazw => k_asm); (case hbzw => k_asm); (case hkzw => k_asm); (case zzw => omega); k_whole); intro h'zw' F'zw' N'zw'; (try dsimp only at N'zw'); (try k_sweep)))
  (k_with "=getMethod ref" => (k_here; (with_reducible show wpAny _ _ (getMethod (Value.ref _) (PySem.Str.ofString "remove") _) _ _ _); k_dflt (refine' kl_method ?Nzw ?mzw PySem.F.slot_list_remove PySem.F.type_list_remove ?_; (case Nzw => k_asm); (case mzw => k_mem))))
  (k_with "=compareOp NotIn int ref" => (k_here; k_dflt (refine kdg_notin (knd := intKind _ _) (by k_asm) (by k_mem) (by k_asm) (by first | exact nm_ow (by assumption) | exact nm_sd (by assumption) | exact nm_mp (by assumption) | exact notmod (by omega)) (intKind_is _ _ _ _) _ (by first | assumption | rfl) ?_); (try dsimp only [Bool.not_true, Bool.not_false])))
  (k_with "=compareOp In int ref" => (k_here; k_dflt (refine kda_in (knd := intKind _ _) (by k_asm) (by k_mem) (by k_asm) (by first | exact nm_ow (by assumption) | exact nm_sd (by assumption) | exact nm_mp (by assumption) | exact notmod (by omega)) (intKind_is _ _ _ _) _ (by first | assumption | rfl) ?_)))
  (k_with "=subscriptTail" => (k_here; (with_reducible show wpAny _ _ (subscriptTail _ _ (Value.ref _) (Value.int _ _)) _ _ _); k_dflt (refine kdt_tail (knd := intKind _ _) (by k_asm) (by k_mem) (by k_asm) (kdt_getItem (knd := intKind _ _) (by k_asm) (by k_mem) (by k_asm) (intKind_is _ _ _ _) (by assumption) ?_))))
  (k_with "=subscriptTail Attribute Name Name ref int" => (k_here; k_dflt (refine kdt_tail (knd := intKind _ _) (by k_asm) (by k_mem) (by k_asm) (kdt_getItem (knd := intKind _ _) (by k_asm) (by k_mem) (by k_asm) (intKind_is _ _ _ _) (by assumption) ?_))))
  (k_with "=setItem ref int" => (k_here; k_dflt (refine' kda_set (knd := intKind _ _) ?Fzw ?Nzw ?Uzw ?dzw (intKind_is _ _ _ _) ?zzw ?_; (case Fzw => k_asm); (case Nzw => k_asm); (case Uzw => k_updF); (case dzw => k_asm); (case zzw => exact szOk (by omega))); intro h'zw' o'zw' F'zw' N'zw' hd'zw'; (try dsimp only at N'zw'); (try k_sweep)))
  (k_with "=delItem ref int" => (k_here; k_dflt (refine' kob_del (knd := intKind _ _) ?Fzw ?Nzw ?Uzw ?dzw (intKind_is _ _ _ _) ?lzw ?zzw ?_; (case Fzw => k_asm); (case Nzw => k_asm); (case Uzw => k_updF); (case dzw => k_asm); (case lzw => first | assumption | (simp only [*]; done)); (case zzw => exact szOk (by omega))); intro h'zw' o'zw' F'zw' N'zw' hd'zw'; (try dsimp only at N'zw'); (try k_sweep)))
  (k_with "=getMethod ref" => (k_here; (with_reducible show wpAny _ _ (getMethod (Value.ref _) (PySem.Str.ofString "append") _) _ _ _); k_dflt (refine' kl_method ?Nzw ?mzw PySem.F.slot_list_append PySem.F.type_list_append ?_; (case Nzw => k_asm); (case mzw => k_mem))))
  (k_with "=call ref" => (k_here; k_dflt (refine' call_cls ?k1zw ?k2zw ?k3zw ?k4zw ?k5zw ?k6zw ?_; (case k1zw => k_asm); (case k2zw => k_asm); (case k3zw => k_asm); (case k4zw => k_is); (case k5zw => k_is); (case k6zw => k_is); k_whole; intro x'zw' d'zw' h'zw' F'zw' N'zw' l1zw' l2zw'; (try k_lt l1zw'); (try k_lt2 l2zw'); (try k_sweep); k_enter)))
  (k_with "=call ref" => (k_here; k_dflt (refine wpAny_call ?_; k_enter)))
  (k_with "=getMethod ref" => (k_here; (with_reducible show wpAny _ _ (getMethod (Value.ref _) (Str.ofString "get") _) _ _ _); k_dflt (refine kdg_method (knd := PySem.intKind _ _) (by k_asm) (by k_mem) (by k_asm) ?_)))
  (k_with "=call builtin:dict.get" => (k_here; (with_reducible show wpAny _ _ (call (Value.builtin "dict.get") [Value.ref _, Value.int _ _, _]) _ _ _); k_dflt (refine kdg_get2 (knd := PySem.intKind _ _) (by k_asm) (by k_mem) (by k_asm) (by first | exact nm_ow (by assumption) | exact nm_sd (by assumption) | exact nm_mp (by assumption) | exact notmod (by omega)) (intKind_is _ _ _ _) _ rfl ?_)))
  (k_with "tb_rel" => exact ⟨by assumption, by assumption, by assumption, by first | exact rfl | assumption, by first | exact rfl | assumption, by first | exact lt_add 1 hd9 rfl | exact lt_add 2 hd9 rfl | exact lt_add 3 hd9 rfl | exact lt_add 4 hd9 rfl | exact lt_add 1 hd8 rfl | exact lt_add 2 hd8 rfl | exact lt_add 3 hd8 rfl | exact lt_add 4 hd8 rfl | ((try simp only [depth_under_make, depth_under_kw, depth_in1, depth_deeper, depth_caller]); omega) | decide, by first | exact lt_add 1 hu9 rfl | exact lt_add 2 hu9 rfl | exact lt_add 3 hu9 rfl | exact lt_add 4 hu9 rfl | exact lt_add 5 hu9 rfl | exact lt_add 6 hu9 rfl | exact lt_add 1 hu8 rfl | exact lt_add 2 hu8 rfl | exact lt_add 3 hu8 rfl | exact lt_add 4 hu8 rfl | exact lt_add 5 hu8 rfl | exact lt_add 6 hu8 rfl | ((try simp only [units_in1, units_deeper, units_under_make, units_caller, Around.deeper_units]); omega) | decide⟩)
  (k_with "k_upd" => first | exact upd_cd (by assumption) (by k_all) | exact upd_rw (by assumption) (by k_all) | exact upd_od (by assumption) (by k_all) | exact upd_ft (by assumption) (by k_all) | (refine' upd_core ?azw ?bzw; (case azw => exact off_all (by assumption) (Or.inr (by with_reducible assumption))); (case bzw => k_upd)))
  (k_with "k_updF" => first | exact upd_ow (by assumption) (by k_all) | exact upd_mp (by assumption) (by k_all) | exact upd_sd (by assumption) (by k_all))
  (k_with "k_room" => first | exact room 0 (a := 900) (by with_reducible assumption) rfl | exact room 1 (a := 900) (by with_reducible assumption) rfl | exact room 2 (a := 900) (by with_reducible assumption) rfl | exact room 3 (a := 900) (by with_reducible assumption) rfl | exact room 4 (a := 900) (by with_reducible assumption) rfl | exact room 5 (a := 900) (by with_reducible assumption) rfl | exact room 6 (a := 900) (by with_reducible assumption) rfl)
  (k_with "k_all" => (with_reducible refine List.forall_mem_cons.mpr ⟨Or.inr (by with_reducible assumption), ?_⟩; k_all))
  (k_with "kst" => first | (k_unfold; (try dsimp only)) | (k_end; wrow_close) | walk1 | (dsimp only; walk1) | (leave1; walk_say "STEP leave1"; try dsimp only) | fail "no step")
  trivial
example : True := by
  (k_with "=eval Name" => (k_here; k_dflt (refine' nameX_L ?k1zw ?k2zw ?_ ?k3zw ?k4zw ?k5zw; (case k1zw => k_asm); (case k2zw => assumption); (case k3zw => rfl); (case k4zw => rfl); (case k5zw => decide); k_whole)))
  (k_with "=eval Name" => (k_here; k_dflt (refine' name_blk ?azw ?bzw ?_ ?czw ?dzw ?ezw; (case azw => assumption); (case bzw => assumption); (case czw => rfl); (case dzw => rfl); (case ezw => decide); k_whole)))
  trivial
section
local macro_rules | `(tactic| k_lt $_) => `(tactic| skip)
example : True := by first | (w_top off; (fail_if_success walk1); trivial) | trivial
section
open PySem PySem.W PySem.Calls PyProof.Rows
section

section
variable {w : World} {A₀ : Around} {E : Value → Shared → Prop} {s : Shared} {base h₀ : Heap} {fa : Addr} {cdv : Value} {outer : List Env} {L d u : Nat} {m mg mb : Str → Option Value} {loose : List Str} {mean : ExcName → Option Value}
  {X : Fx} {low lowest out : Int} {tl tw tu : Tok} {cN : Nat} {rV : List Value} {rN : Nat} {oO : Obj} {dV : List Value} {dN : Nat} {mO : Obj} {tV : List Value} {tN : Nat} {fV : List Value} {fN : Nat} {sO : Obj}
  {rgO wdO o1 o2 : Obj} {rowV roV : List Value} {lvN rowN roN tnn : Nat} {tes : List DictEntry} {junk : List (Addr × Obj)}
example : True := by
  (k_with "stopL41" => first | (with_reducible show wpAny _ _ (call (Value.builtin "min") _ _) _ _ _) | (with_reducible show wpAny _ _ (binaryOp _ (Value.ref _) (Value.ref _)) _ _ _))
  trivial
set_option maxRecDepth 100000 in
set_option maxHeartbeats 1000000 in
theorem deepest_piece {Q : Flow → Shared → Prop} {its : List IR} {Dh n : Nat} {dp : Int} {tdp : Tok} (C : CT w A₀ base h₀ (lawEnv L fa cdv) outer L d u mg mb loose mean) (O : X.Ok) (F : Fr h₀ L s.heap m) (hhd : m (Str.ofString "slots") = some (.ref Dh)) (hdp0 : m (Str.ofString "deepest") = some (.int dp tdp))
    (N : News h₀ L s.heap (coreL X.K (cdE X.K low tl lowest tw out tu) cN rV rN oO dV dN mO tV tN fV fN sO (topL X rgO wdO (its.map fun i => Value.ref i.x) lvN rowV rowN o1 o2 roV roN tes tnn (itL X.K.h its ++ junk)))) (hDh : (Dh, listOf (List.toArray ((its.filter (fun i : IR => decide (i.mode = "spill"))).map (fun i : IR => Value.int i.slot i.ts))) n) ∈ junk) (hz : its.length ≤ 1000)
    (h : ∀ h' tk M t, Fr h₀ L h' (fun y => if y = Str.ofString "deepest" then some (.int M t) else m y) → News h₀ L h' (coreL X.K (cdE X.K low tl lowest tw out tu) cN rV rN oO dV dN mO tV tN fV fN sO (topL X rgO wdO (its.map fun i => Value.ref i.x) lvN rowV rowN o1 o2 roV roN tes tnn (itL X.K.h its ++ junk))) → M ∈ dp :: (its.filter (fun i : IR => decide (i.mode = "spill"))).map (·.slot) → (∀ a ∈ dp :: (its.filter (fun i : IR => decide (i.mode = "spill"))).map (·.slot), M ≤ a) → Q .next { s with heap := h', toks := tk }) :
    wpAny (model pg w) (AA d u (lawEnv L fa cdv :: outer)) (execs (cut 14 1) (lawEnv L fa cdv)) Q E s := by
  have fill : PySem.Challenge.rw_pb0351_01 = PySem.Challenge.rw_pb0351_01 ∧ Mine.hd.heap_1 = Mine.hd.heap_1 := by
    k_fill
    exact ⟨rfl, rfl⟩
  clear fill
  refine hide fun Pz kPz => ?_
  obtain ⟨B, XH, T, hf, hke, hdp, hu⟩ := C
  refine kPz ?_
  clear kPz
  simp only [lawEnv, cut, lawSc, lapB, lawB, lawS, PySem.Challenge.rw_pb0351_01, PySem.Challenge.pw_pb0351_01, OpenLaw.row, nth, lastS, bodyOf, scopeOf, List.drop, List.take] at *
  have hIh := ints_map (·.slot) (·.ts) (its.filter (fun i : IR => decide (i.mode = "spill")))
  have hlen : (its.filter (fun i : IR => decide (i.mode = "spill"))).length ≤ 1000 := Nat.le_trans (List.length_filter_le _ _) hz
  have hm0 : (Dh, listOf (List.toArray ((its.filter (fun i : IR => decide (i.mode = "spill"))).map (fun i : IR => Value.int i.slot i.ts))) n) ∈ (coreL X.K (cdE X.K low tl lowest tw out tu) cN rV rN oO dV dN mO tV tN fV fN sO (topL X rgO wdO (its.map fun i => Value.ref i.x) lvN rowV rowN o1 o2 roV roN tes tnn (itL X.K.h its ++ junk))) := by
    have : (Dh, listOf (List.toArray ((its.filter (fun i : IR => decide (i.mode = "spill"))).map (fun i : IR => Value.int i.slot i.ts))) n) ∈ itL X.K.h its ++ junk := List.mem_append_right _ hDh
    k_mem
  (repeat' ((fail_if_success k_extra "stopL41"); k_extra "kst"))
  rename News _ _ _ _ => NZ
  rename Fr _ _ _ _ => FZ
  refine kmk_add_ints FZ NZ (News.isList NZ (.head _)) (News.isList NZ (.tail _ hm0)) (.cons dp _ .nil) hIh ?_ ?_
  · intro D1 us h1 F1 N1 l1 hI1
    clear FZ NZ
    (repeat' ((fail_if_success k_extra "stopL41"); k_extra "kst"))
    refine kso_min F1 N1 (News.isList N1 (.head _)) hI1 (by rw [List.length_append, List.length_singleton]; exact Nat.lt_of_lt_of_le Nat.zero_lt_one (Nat.le_add_right _ _)) rfl ?_
    intro h2 M t tk2 F2 N2 hM hM2
    clear F1 N1
    (repeat' ((fail_if_success k_extra "stopL41"); k_extra "kst"))
    exact h _ _ M t (by assumption) (News.sub (by assumption) fun p hp => .tail _ (.tail _ hp)) hM hM2
  · rw [List.length_map, List.length_singleton]
    exact szOk (by omega)
end
end
end
example : True := by first | (w_top off; (fail_if_success walk1); trivial) | trivial
section
open PySem PySem.W PySem.Calls PyProof.Rows
section

section
variable {w : World} {A₀ : Around} {E : Value → Shared → Prop} {s : Shared} {base h₀ : Heap} {fa : Addr} {cdv : Value} {outer : List Env} {L d u : Nat} {m mg mb : Str → Option Value} {loose : List Str} {mean : ExcName → Option Value}
  {X : Fx} {low lowest out : Int} {tl tw tu : Tok} {cN : Nat} {rV : List Value} {rN : Nat} {oO : Obj} {dV : List Value} {dN : Nat} {mO : Obj} {tV : List Value} {tN : Nat} {fV : List Value} {fN : Nat} {sO : Obj}
  {rgO wdO o1 o2 : Obj} {rowV roV : List Value} {lvN rowN roN tnn : Nat} {tes : List DictEntry} {junk : List (Addr × Obj)}
example : True := by
  (k_with "stopL51" => first | (with_reducible show wpAny _ _ (exec (Stmt.For _ _ _ _ _) _) _ _ _) | (with_reducible show wpAny _ _ (pyIter (Value.ref _)) _ _ _) | (with_reducible show wpAny _ _ (subscriptTail _ _ _ _) _ _ _))
  trivial
set_option maxRecDepth 100000 in
set_option maxHeartbeats 1000000 in
theorem values_piece {Q : Flow → Shared → Prop} {its : List IR} {rk wk : List (Int × Value)} (C : CT w A₀ base h₀ (lawEnv L fa cdv) outer L d u mg mb loose mean) (O : X.Ok) (F : Fr h₀ L s.heap m) (hlv : m (Str.ofString "live") = some (.ref X.lv)) (hrg : m (Str.ofString "regs") = some (.ref X.rg)) (hwd : m (Str.ofString "words") = some (.ref X.wd))
    (N : News h₀ L s.heap (coreL X.K (cdE X.K low tl lowest tw out tu) cN rV rN oO dV dN mO tV tN fV fN sO (topL X rgO wdO (its.map fun i => Value.ref i.x) lvN rowV rowN o1 o2 roV roN tes tnn (itL X.K.h its ++ junk)))) (hr : rgO.IsDictOf (intK w) rk) (hw : wdO.IsDictOf (intK w) wk) (hC : ∀ i ∈ its, i.mode = "reg" ∨ i.mode = "spill") (hV : Vals its (rk, wk)) (hz : its.length ≤ 1000)
    (h : ∀ h' tk (z : Str → Option Value), Fr h₀ L h' (fun y => if y = Str.ofString "item" then z y else m y) → News h₀ L h' (coreL X.K (cdE X.K low tl lowest tw out tu) cN rV rN oO dV dN mO tV tN fV fN sO (topL X rgO wdO (its.map fun i => Value.ref i.x) lvN rowV rowN o1 o2 roV roN tes tnn (itL X.K.h its ++ junk))) → Q .next { s with heap := h', toks := tk }) :
    wpAny (model pg w) (AA d u (lawEnv L fa cdv :: outer)) (execs (cut 15 1) (lawEnv L fa cdv)) Q (fun _ _ => False) s := by
  have fill : PySem.Challenge.rw_pb0351_01 = PySem.Challenge.rw_pb0351_01 ∧ Mine.hd.heap_1 = Mine.hd.heap_1 := by
    k_fill
    exact ⟨rfl, rfl⟩
  clear fill
  refine hide fun Pz kPz => ?_
  obtain ⟨B, XH, T, hf, hke, hdp, hu⟩ := C
  refine kPz ?_
  clear kPz
  simp only [lawEnv, cut, lawSc, lapB, lawB, lawS, PySem.Challenge.rw_pb0351_01, PySem.Challenge.pw_pb0351_01, OpenLaw.row, nth, lastS, bodyOf, scopeOf, List.drop, List.take] at *
  (repeat' ((fail_if_success k_extra "stopL51"); k_extra "kst"))
  rename Fr _ _ _ _ => FX
  refine For_invVF FX rfl rfl ?_
  (repeat' ((fail_if_success k_extra "stopL51"); k_extra "kst"))
  rename News _ _ _ _ => N1
  rename Fr _ _ _ _ => F1
  refine iter_list0 (l := X.lv) (vs := its.map fun i => Value.ref i.x) (n := lvN) (fun i nw => nw = (coreL X.K (cdE X.K low tl lowest tw out tu) cN rV rN oO dV dN mO tV tN fV fN sO (topL X rgO wdO (its.map fun i => Value.ref i.x) lvN rowV rowN o1 o2 roV roN tes tnn (itL X.K.h its ++ junk)))) rfl (by k_mem) F1 N1 rfl ?_ ?_
  · rintro j v nw h3 tk3 ow I hj rfl hltI hnI hown F3 N3 _
    refine hide fun Pz kPz => ?_
    obtain ⟨i, hi, rfl⟩ := List.mem_map.mp (List.mem_of_getElem? hj)
    refine kPz ?_
    clear kPz
    replace N3 : News _ _ _ (coreL X.K (cdE X.K low tl lowest tw out tu) cN rV rN oO dV dN mO tV tN fV fN sO (topL X rgO wdO (its.map fun i => Value.ref i.x) lvN rowV rowN o1 o2 roV roN tes tnn (itL X.K.h its ++ junk ++ ow))) := N3
    have hq1 : (i.x, instObj 108 i.dx) ∈ itL X.K.h its ++ junk ++ ow := List.mem_append_left _ (List.mem_append_left _ (itL_o hi))
    have hq2 : (i.dx, dictOf (itE X.K.h i.t i.v i.mode i.tm i.value i.tv i.reg i.tr i.root i.slot i.ts i.was i.ta) i.n) ∈ itL X.K.h its ++ junk ++ ow := List.mem_append_left _ (List.mem_append_left _ (itL_d hi))
    clear F1 N1
    rcases hC i hi with hm | hm
    · obtain ⟨t, ht⟩ := hV.rg i hi hm
      dsimp only at ht
      rw [hm] at hq2
      (repeat' ((fail_if_success k_extra "stopL51"); k_extra "kst"))
      refine kdt_tail (knd := intKind _ _) N3 (by k_mem) hr (kdt_getItem (knd := intKind _ _) N3 (by k_mem) hr (intKind_is _ _ _ _) ht ?_)
      (repeat' ((fail_if_success k_extra "stopL51"); k_extra "kst"))
      · rename _ ≠ _ => hc
        exact absurd rfl hc
      · exact ⟨_, _, _, _, rfl, by assumption, by assumption, hnI, fun z hz => if_neg hz, rfl⟩
    · obtain ⟨t, ht⟩ := hV.sl i hi hm
      dsimp only at ht
      rw [hm] at hq2
      (repeat' ((fail_if_success k_extra "stopL51"); k_extra "kst"))
      refine kdt_tail (knd := intKind _ _) N3 (by k_mem) hw (kdt_getItem (knd := intKind _ _) N3 (by k_mem) hw (intKind_is _ _ _ _) ht ?_)
      (repeat' ((fail_if_success k_extra "stopL51"); k_extra "kst"))
      · rename _ ≠ _ => hc
        exact absurd rfl hc
      · exact ⟨_, _, _, _, rfl, by assumption, by assumption, hnI, fun z hz => if_neg hz, rfl⟩
  · rintro u nw h3 tk3 rfl F3 N3
    clear F1 N1
    (repeat' ((fail_if_success k_extra "stopL51"); k_extra "kst"))
    exact h _ _ u (by assumption) (by assumption)
end
end
end
example : True := by first | (w_top off; (fail_if_success walk1); trivial) | trivial
section
open PySem PySem.W PySem.Calls PyProof.Rows
section

section
variable {w : World} {A₀ : Around} {E : Value → Shared → Prop} {s : Shared} {base h₀ : Heap} {fa : Addr} {cdv : Value} {outer : List Env} {L d u : Nat} {m mg mb : Str → Option Value} {loose : List Str} {mean : ExcName → Option Value}
  {X : Fx} {low lowest out : Int} {tl tw tu : Tok} {cN : Nat} {rV : List Value} {rN : Nat} {oO : Obj} {dV : List Value} {dN : Nat} {mO : Obj} {tV : List Value} {tN : Nat} {fV : List Value} {fN : Nat} {sO : Obj}
  {rgO wdO o1 o2 : Obj} {rowV roV : List Value} {lvN rowN roN tnn : Nat} {tes : List DictEntry} {junk : List (Addr × Obj)}
example : True := by
  (k_with "stopL61" => first | (with_reducible show wpAny _ _ (call (Value.builtin "sorted") _ _) _ _ _) | (with_reducible show wpAny _ _ (compareOp _ (Value.ref _) (Value.ref _)) _ _ _) | (with_reducible show wpAny _ _ (eval (Expr.ListComp _ _ _ _) _) _ _ _) | (with_reducible show CompGoal _ _ _ _ _ _ _ _ _ _ _ _ _ _) | (with_reducible show wpAny _ _ (binaryOp _ (Value.ref _) (Value.ref _)) _ _ _) | (with_reducible show wpAny _ _ (subscriptTail _ _ _ _) _ _ _) | (with_reducible show wpAny _ _ (call (Value.ref 241) _ _) _ _ _) | (with_reducible show wpAny _ _ (call (Value.ref 313) _ _) _ _ _))
  trivial
set_option maxRecDepth 100000 in
set_option maxHeartbeats 1000000 in
theorem frame_piece {Q : Flow → Shared → Prop} {its : List IR} {tdp : Tok} (C : CT w A₀ base h₀ (lawEnv L fa cdv) outer L d u mg mb loose mean) (O : X.Ok) (F : Fr h₀ L s.heap m) (hco : m (Str.ofString "coder") = some (.ref X.K.c)) (hdp0 : m (Str.ofString "deepest") = some (.int lowest tdp))
    (N : News h₀ L s.heap (coreL X.K (cdE X.K low tl lowest tw out tu) cN rV rN oO dV dN mO tV tN fV fN sO (topL X rgO wdO (its.map fun i => Value.ref i.x) lvN rowV rowN o1 o2 roV roN tes tnn (itL X.K.h its ++ junk)))) (hout : out = 0) (hlow : -100000 ≤ lowest ∧ lowest ≤ 0)
    (h : ∀ h' tk, Fr h₀ L h' m → News h₀ L h' (coreL X.K (cdE X.K low tl lowest tw out tu) cN rV rN oO dV dN mO tV tN fV fN sO (topL X rgO wdO (its.map fun i => Value.ref i.x) lvN rowV rowN o1 o2 roV roN tes tnn (itL X.K.h its ++ junk))) → Q .next { s with heap := h', toks := tk }) :
    wpAny (model pg w) (AA d u (lawEnv L fa cdv :: outer)) (execs (cut 16 1) (lawEnv L fa cdv)) Q E s := by
  have fill : PySem.Challenge.rw_pb0351_01 = PySem.Challenge.rw_pb0351_01 ∧ Mine.hd.heap_1 = Mine.hd.heap_1 := by
    k_fill
    exact ⟨rfl, rfl⟩
  clear fill
  refine hide fun Pz kPz => ?_
  obtain ⟨B, XH, T, hf, hke, hdp, hu⟩ := C
  refine kPz ?_
  clear kPz
  simp only [lawEnv, cut, lawSc, lapB, lawB, lawS, PySem.Challenge.rw_pb0351_01, PySem.Challenge.pw_pb0351_01, OpenLaw.row, nth, lastS, bodyOf, scopeOf, List.drop, List.take] at *
  (repeat' ((fail_if_success k_extra "stopL61"); k_extra "kst"))
  (try dsimp only [List.cons_append, List.nil_append])
  rename Fr _ _ _ _ => FX
  rename News _ _ _ _ => NX
  refine frame_size_spec (by k_extra "tb_rel") O.O FX NX (by omega) hlow ?_
  intro h1 tk1 t1 F1 N1
  clear FX NX
  (repeat' ((fail_if_success k_extra "stopL61"); k_extra "kst"))
  · rename _ ≠ _ => hc
    exact absurd (by omega) hc
  · exact h _ _ (by assumption) (by assumption)
set_option maxRecDepth 100000 in
set_option maxHeartbeats 1000000 in
theorem note_piece {Q : Flow → Shared → Prop} {its : List IR} {own spl : List (Int × Nat)} {lap : Int} {tlp : Tok} {rs : List Int} {mkvs : List (Int × Value)} (C : CT w A₀ base h₀ (lawEnv L fa cdv) outer L d u mg mb loose mean) (O : X.Ok) (F : Fr h₀ L s.heap m) (hd8 : d < 800) (hu8 : u < 8000) (hco : m (Str.ofString "coder") = some (.ref X.K.c)) (hlp : m (Str.ofString "lap") = some (.int lap tlp))
    (N : News h₀ L s.heap (coreL X.K (cdE X.K low tl lowest tw out tu) cN rV rN oO dV dN mO tV tN fV fN sO (topL X rgO wdO (its.map fun i => Value.ref i.x) lvN rowV rowN o1 o2 roV roN tes tnn (itL X.K.h its ++ junk)))) (W : WFL X.K its (topL X rgO wdO (its.map fun i => Value.ref i.x) lvN rowV rowN o1 o2 roV roN tes tnn junk)) (hC : Core X.K.cnt its own spl) (hs : sO.IsDictOf (intK w) (refs spl)) (hsz : spl.length ≤ 50)
    (hI : IntsAre tV rs) (hrs : rs.length ≤ 2) (hm : mO.IsDictOf (intK w) mkvs) (hmz : mkvs.length ≤ 100)
    (h : ∀ h' tk mO' sl sn sv ns', Fr h₀ L h' m → IntsAre sv ns' → ns'.Perm (rs ++ rootSlots its spl) → ns'.Pairwise (· ≤ ·) → mO'.IsDictOf (intK w) (stored mkvs lap (.ref sl)) →
      News h₀ L h' (coreL X.K (cdE X.K low tl lowest tw out tu) cN rV rN oO dV dN mO' tV tN fV fN sO (topL X rgO wdO (its.map fun i => Value.ref i.x) lvN rowV rowN o1 o2 roV roN tes tnn (itL X.K.h its ++ ((sl, listOf (List.toArray sv) sn) :: junk)))) → (∀ p ∈ (coreL X.K (cdE X.K low tl lowest tw out tu) cN rV rN oO dV dN mO tV tN fV fN sO (topL X rgO wdO (its.map fun i => Value.ref i.x) lvN rowV rowN o1 o2 roV roN tes tnn (itL X.K.h its ++ junk))), @LT.lt Nat _ p.1 sl) → Q .next { s with heap := h', toks := tk }) :
    wpAny (model pg w) (AA d u (lawEnv L fa cdv :: outer)) (execs (cut 17 1) (lawEnv L fa cdv)) Q E s := by
  have fill : PySem.Challenge.rw_pb0351_01 = PySem.Challenge.rw_pb0351_01 ∧ Mine.hd.heap_1 = Mine.hd.heap_1 := by
    k_fill
    exact ⟨rfl, rfl⟩
  clear fill
  refine hide fun Pz kPz => ?_
  obtain ⟨B, XH, T, hf, hke, hdp, hu⟩ := C
  refine kPz ?_
  clear kPz
  simp only [lawEnv, cut, lawSc, lapB, lawB, lawS, PySem.Challenge.rw_pb0351_01, PySem.Challenge.pw_pb0351_01, OpenLaw.row, nth, lastS, bodyOf, scopeOf, List.drop, List.take] at *
  (repeat' ((fail_if_success k_extra "stopL61"); k_extra "kst"))
  (try dsimp only [List.cons_append, List.nil_append])
  rename Fr _ _ _ _ => FX
  rename News _ _ _ _ => NX
  refine note_map_spec (by k_extra "tb_rel") O.O FX (top_its NX) W hs hsz hC.snd (fun p hp => let ⟨v, a, b, _⟩ := hC.s2i p hp; ⟨v, a, b⟩) hI hrs hm hmz ?_
  intro h1 tk1 mO' sl sn sv ns' F1 i1 p1 oo1 d1 N1 l1
  clear FX NX
  have hsub : ∀ p ∈ (coreL X.K (cdE X.K low tl lowest tw out tu) cN rV rN oO dV dN mO' tV tN fV fN sO (topL X rgO wdO (its.map fun i => Value.ref i.x) lvN rowV rowN o1 o2 roV roN tes tnn (itL X.K.h its ++ ((sl, listOf (List.toArray sv) sn) :: junk)))), p ∈ (sl, listOf (List.toArray sv) sn) :: coreL X.K (cdE X.K low tl lowest tw out tu) cN rV rN oO dV dN mO' tV tN fV fN sO (itL X.K.h its ++ topL X rgO wdO (its.map fun i => Value.ref i.x) lvN rowV rowN o1 o2 roV roN tes tnn junk) := fun p hp => by
    rcases List.mem_cons.mp (mem_junk hp) with rfl | hp
    · exact .head _
    · exact .tail _ (mem_shift.mpr hp)
  (repeat' ((fail_if_success k_extra "stopL61"); k_extra "kst"))
  exact h _ _ mO' sl sn sv ns' (by assumption) i1 p1 oo1 d1 (News.sub (by assumption) hsub) (fun p hp => l1 p (mem_shift.mpr hp))
end
end
end
example : True := by first | (w_top off; (fail_if_success walk1); trivial) | trivial
section
open PySem PySem.W PySem.Calls PyProof.Rows
section

section
variable {w : World} {A₀ : Around} {E : Value → Shared → Prop} {s : Shared} {base h₀ : Heap} {fa : Addr} {cdv : Value} {outer : List Env} {L d u : Nat} {m mg mb : Str → Option Value} {loose : List Str} {mean : ExcName → Option Value}
  {X : Fx} {low lowest out : Int} {tl tw tu : Tok} {cN : Nat} {rV : List Value} {rN : Nat} {oO : Obj} {dV : List Value} {dN : Nat} {mO : Obj} {tV : List Value} {tN : Nat} {fV : List Value} {fN : Nat} {sO : Obj}
  {rgO wdO o1 o2 : Obj} {rowV roV : List Value} {lvN rowN roN tnn : Nat} {tes : List DictEntry} {junk : List (Addr × Obj)}
example : True := by
  (k_with "stopL71" => first | (with_reducible show wpAny _ _ (call (Value.builtin "sorted") _ _) _ _ _) | (with_reducible show wpAny _ _ (compareOp _ (Value.ref _) (Value.ref _)) _ _ _) | (with_reducible show wpAny _ _ (eval (Expr.ListComp _ _ _ _) _) _ _ _) | (with_reducible show CompGoal _ _ _ _ _ _ _ _ _ _ _ _ _ _) | (with_reducible show wpAny _ _ (binaryOp _ (Value.ref _) (Value.ref _)) _ _ _) | (with_reducible show wpAny _ _ (subscriptTail _ _ _ _) _ _ _))
  trivial
theorem str_beq (a b : Str) : (a == b) = decide (a = b) := rfl
theorem root_perm {cnt : Int} {its : List IR} {own spl : List (Int × Nat)} (C : Core cnt its own spl) (hx : ∀ i ∈ its, rootOf its i.x = i.root) : ((its.filter (fun i : IR => decide (i.mode = "spill") && i.root)).map (·.slot)).Perm (rootSlots its spl) := by
  have h := (C.spl_perm.filter fun p => rootOf its p.2).map (·.1)
  rw [List.filter_map, List.map_map] at h
  have e : (splItems its).filter ((fun p : Int × Nat => rootOf its p.2) ∘ fun i : IR => (i.slot, i.x)) = its.filter (fun i : IR => decide (i.mode = "spill") && i.root) := by
    unfold splItems
    rw [List.filter_filter]
    refine List.filter_congr fun i hi => ?_
    show (rootOf its i.x && decide (i.mode = "spill")) = _
    rw [hx i hi, Bool.and_comm]
  rw [e] at h
  exact h
set_option maxRecDepth 100000 in
set_option maxHeartbeats 1000000 in
theorem maps_piece {Q : Flow → Shared → Prop} {its : List IR} {own spl : List (Int × Nat)} {lap : Int} {tlp : Tok} {rs ns' : List Int} {mkvs : List (Int × Value)} {sl sn : Nat} {sv : List Value} (C : CT w A₀ base h₀ (lawEnv L fa cdv) outer L d u mg mb loose mean) (O : X.Ok) (F : Fr h₀ L s.heap m) (hco : m (Str.ofString "coder") = some (.ref X.K.c)) (hlp : m (Str.ofString "lap") = some (.int lap tlp)) (hlv : m (Str.ofString "live") = some (.ref X.lv)) (hro : m (Str.ofString "roots") = some (.ref X.ro))
    (N : News h₀ L s.heap (coreL X.K (cdE X.K low tl lowest tw out tu) cN rV rN oO dV dN mO tV tN fV fN sO (topL X rgO wdO (its.map fun i => Value.ref i.x) lvN rowV rowN o1 o2 roV roN tes tnn (itL X.K.h its ++ junk)))) (hC : Core X.K.cnt its own spl) (hx : ∀ i ∈ its, rootOf its i.x = i.root) (hz : its.length ≤ 50) (hI : IntsAre roV rs) (hrs : rs.length ≤ 2) (hm : mO.IsDictOf (intK w) mkvs) (hat : valueAt mkvs lap = some (.ref sl))
    (hsl : (sl, listOf (List.toArray sv) sn) ∈ junk) (isv : IntsAre sv ns') (pns : ns'.Perm (rs ++ rootSlots its spl)) (ons : ns'.Pairwise (· ≤ ·))
    (h : ∀ h' tk, Fr h₀ L h' m → News h₀ L h' (coreL X.K (cdE X.K low tl lowest tw out tu) cN rV rN oO dV dN mO tV tN fV fN sO (topL X rgO wdO (its.map fun i => Value.ref i.x) lvN rowV rowN o1 o2 roV roN tes tnn (itL X.K.h its ++ junk))) → Q .next { s with heap := h', toks := tk }) :
    wpAny (model pg w) (AA d u (lawEnv L fa cdv :: outer)) (execs (cut 18 1) (lawEnv L fa cdv)) Q E s := by
  have fill : PySem.Challenge.rw_pb0351_01 = PySem.Challenge.rw_pb0351_01 ∧ Mine.hd.heap_1 = Mine.hd.heap_1 := by
    k_fill
    exact ⟨rfl, rfl⟩
  clear fill
  refine hide fun Pz kPz => ?_
  obtain ⟨B, XH, T, hf, hke, hdp, hu⟩ := C
  refine kPz ?_
  clear kPz
  simp only [lawEnv, cut, lawSc, lapB, lawB, lawS, PySem.Challenge.rw_pb0351_01, PySem.Challenge.pw_pb0351_01, OpenLaw.row, nth, lastS, bodyOf, scopeOf, List.drop, List.take] at *
  have hm0 : (sl, listOf (List.toArray sv) sn) ∈ (coreL X.K (cdE X.K low tl lowest tw out tu) cN rV rN oO dV dN mO tV tN fV fN sO (topL X rgO wdO (its.map fun i => Value.ref i.x) lvN rowV rowN o1 o2 roV roN tes tnn (itL X.K.h its ++ junk))) := by
    have : (sl, listOf (List.toArray sv) sn) ∈ itL X.K.h its ++ junk := List.mem_append_right _ hsl
    k_mem
  have hl0 : (X.lv, listOf (its.map fun i => Value.ref i.x).toArray lvN) ∈ (coreL X.K (cdE X.K low tl lowest tw out tu) cN rV rN oO dV dN mO tV tN fV fN sO (topL X rgO wdO (its.map fun i => Value.ref i.x) lvN rowV rowN o1 o2 roV roN tes tnn (itL X.K.h its ++ junk))) := by k_mem
  have hr0 : (X.ro, listOf roV.toArray roN) ∈ (coreL X.K (cdE X.K low tl lowest tw out tu) cN rV rN oO dV dN mO tV tN fV fN sO (topL X rgO wdO (its.map fun i => Value.ref i.x) lvN rowV rowN o1 o2 roV roN tes tnn (itL X.K.h its ++ junk))) := by k_mem
  have hfl : (its.filter (fun i : IR => decide (i.mode = "spill") && i.root)).length ≤ 50 := Nat.le_trans (List.length_filter_le _ _) hz
  (repeat' ((fail_if_success k_extra "stopL71"); k_extra "kst"))
  refine kdt_tail (knd := intKind _ _) N (by k_mem) hm (kdt_getItem (knd := intKind _ _) N (by k_mem) hm (intKind_is _ _ _ _) hat ?_)
  (repeat' ((fail_if_success k_extra "stopL71"); k_extra "kst"))
  refine lc_eval (isP its (fun i : IR => decide (i.mode = "spill") && i.root)) (fun v y => ∃ i ∈ its, v = Value.ref i.x ∧ y = Value.int i.slot i.ts) rfl (by rfl) (by decide) rfl (by decide) (by rfl) (by intro _; rfl) ?_
  (repeat' ((fail_if_success k_extra "stopL71"); k_extra "kst"))
  refine items_comp (fun i : IR => decide (i.mode = "spill") && i.root) (fun i : IR => Value.int i.slot i.ts) hC.xnd (fun _ h => h) F N hl0 (by omega) ?_ ?_ ?_
  · intro C i s₃ E' hi zr1
    refine hide fun Pz kPz => ?_
    obtain ⟨⟨m₃, hn, hm⟩, F3, N3⟩ := zr1
    refine kPz ?_
    clear kPz
    refine tests_one ?_
    have hq1 : (i.x, instObj 108 i.dx) ∈ itL X.K.h its ++ junk := List.mem_append_left _ (itL_o hi)
    have hq2 : (i.dx, dictOf (itE X.K.h i.t i.v i.mode i.tm i.value i.tv i.reg i.tr i.root i.slot i.ts i.was i.ta) i.n) ∈ itL X.K.h its ++ junk := List.mem_append_left _ (itL_d hi)
    clear F N
    (try dsimp only at hm ⊢)
    (repeat' ((fail_if_success k_extra "stopL71"); k_extra "kst"))
    all_goals first | exact ⟨_, _, rfl, fun _ _ e => e⟩ | (rename (_ == _) = _ => hb; rw [str_beq] at hb; rw [hb]; simp [*]; done)
  · intro C i s₃ E' hi hq zr1
    refine hide fun Pz kPz => ?_
    obtain ⟨⟨m₃, hn, hm⟩, F3, N3⟩ := zr1
    refine kPz ?_
    clear kPz
    have hq1 : (i.x, instObj 108 i.dx) ∈ itL X.K.h its ++ junk := List.mem_append_left _ (itL_o hi)
    have hq2 : (i.dx, dictOf (itE X.K.h i.t i.v i.mode i.tm i.value i.tv i.reg i.tr i.root i.slot i.ts i.was i.ta) i.n) ∈ itL X.K.h its ++ junk := List.mem_append_left _ (itL_d hi)
    clear F N
    (try dsimp only at hm ⊢)
    (repeat' ((fail_if_success k_extra "stopL71"); k_extra "kst"))
    exact ⟨_, _, rfl, fun _ _ e => e⟩
  · intro D h1 tk1 n1 F1 N1 hD
    clear F N
    dsimp only
    (repeat' ((fail_if_success k_extra "stopL71"); k_extra "kst"))
    refine kmk_add_ints F1 N1 (News.isList N1 (.tail _ hr0)) (News.isList N1 (.head _)) hI (ints_map (·.slot) (·.ts) _) ?_ ?_
    · intro D1 us h2 F2 N2 l2 hI2
      clear F1 N1
      (repeat' ((fail_if_success k_extra "stopL71"); k_extra "kst"))
      have hll : (rs ++ (its.filter (fun i : IR => decide (i.mode = "spill") && i.root)).map (·.slot)).length < 64 := by rw [List.length_append, List.length_map]; omega
      refine kso_sorted F2 N2 (News.isList N2 (.head _)) hI2 hll ?_
      intro D3 v3 n3 c3 h3 F3 N3 l3 i3 e3 p3 o3 _
      clear F2 N2
      have enn : ns' = n3 := ksm_same (pns.trans ((List.Perm.append_left _ (root_perm hC hx).symm).trans p3.symm)) ons o3
      subst enn
      (repeat' ((fail_if_success k_extra "stopL71"); k_extra "kst"))
      refine ne_intsK (News.isList N3 (.tail _ (.tail _ (.tail _ hm0)))) isv (News.isList N3 (.head _)) i3 (Nat.lt_of_lt_of_le (Nat.add_lt_add_right hu 64) (by decide)) ?_
      rw [decide_eq_true rfl]
      (repeat' ((fail_if_success k_extra "stopL71"); k_extra "kst"))
      exact h _ _ (by assumption) (News.sub (by assumption) fun p hp => .tail _ (.tail _ (.tail _ hp)))
    · rw [List.length_map]
      exact szOk (by omega)
end
end
end
example : True := by first | (w_top off; (fail_if_success walk1); trivial) | trivial
section
open PySem PySem.W PySem.Calls PyProof.Rows
section

section
variable {w : World} {A₀ : Around} {E : Value → Shared → Prop} {s : Shared} {base h₀ : Heap} {fa : Addr} {cdv : Value} {outer : List Env} {L d u : Nat} {m mg mb : Str → Option Value} {loose : List Str} {mean : ExcName → Option Value}
  {X : Fx} {low lowest out : Int} {tl tw tu : Tok} {cN : Nat} {rV : List Value} {rN : Nat} {oO : Obj} {dV : List Value} {dN : Nat} {mO : Obj} {tV : List Value} {tN : Nat} {fV : List Value} {fN : Nat} {sO : Obj}
  {rgO wdO o1 o2 : Obj} {rowV roV : List Value} {lvN rowN roN tnn : Nat} {tes : List DictEntry} {junk : List (Addr × Obj)}
example : True := by
  (k_with "stopL81" => first | (with_reducible show wpAny _ _ (call (Value.ref 448) _ _) _ _ _) | (with_reducible show wpAny _ _ (call (Value.builtin "len") _ _) _ _ _))
  trivial
theorem top_ne2 {X : Fx} {l : List (Addr × Obj)} {a1 a2 a3 a4 a5 a6 a7 : Obj} (O : X.Ok) (hr : ∀ p ∈ l, p.1 ≠ X.rg ∧ p.1 ≠ X.wd) : (∀ p ∈ (X.lv, a1) :: (X.row, a2) :: (X.c1, a3) :: (X.c2, a4) :: (X.ro, a5) :: (X.tx, a6) :: (X.tdx, a7) :: l, p.1 ≠ X.rg) ∧ (∀ p ∈ (X.lv, a1) :: (X.row, a2) :: (X.c1, a3) :: (X.c2, a4) :: (X.ro, a5) :: (X.tx, a6) :: (X.tdx, a7) :: l, p.1 ≠ X.wd) :=
  ⟨(key_ne (A := []) (o := a1) (B := [(X.lv, a1), (X.row, a2), (X.c1, a3), (X.c2, a4), (X.ro, a5), (X.tx, a6), (X.tdx, a7)]) (List.nodup_cons.mpr ⟨fun h => (List.nodup_cons.mp O.nodup).1 (.tail _ h), (List.nodup_cons.mp (List.nodup_cons.mp O.nodup).2).2⟩) fun p hp => (hr p hp).1).2,
   (key_ne (A := []) (o := a1) (B := [(X.lv, a1), (X.row, a2), (X.c1, a3), (X.c2, a4), (X.ro, a5), (X.tx, a6), (X.tdx, a7)]) (List.nodup_cons.mp O.nodup).2 fun p hp => (hr p hp).2).2⟩
set_option maxRecDepth 100000 in
set_option maxHeartbeats 1000000 in
theorem played_piece {Q : Flow → Shared → Prop} {its : List IR} {rk wk : List (Int × Value)} {pv : List Value} {ops : List Op} {tsp : Tok} (C : CT w A₀ base h₀ (lawEnv L fa cdv) outer L d u mg mb loose mean) (O : X.Ok) (F : Fr h₀ L s.heap m) (hd8 : d < 800) (hu8 : u < 8000) (hco : m (Str.ofString "coder") = some (.ref X.K.c)) (hsp : m (Str.ofString "spot") = some (.int (pv.length : Int) tsp)) (hrg : m (Str.ofString "regs") = some (.ref X.rg)) (hwd : m (Str.ofString "words") = some (.ref X.wd))
    (N : News h₀ L s.heap (coreL X.K (cdE X.K low tl lowest tw out tu) cN (pv ++ ops.map fun q => Value.ref q.tp) rN oO dV dN mO tV tN fV fN sO (topL X rgO wdO (its.map fun i => Value.ref i.x) lvN rowV rowN o1 o2 roV roN tes tnn (itL X.K.h its ++ junk)))) (hk : ∀ p ∈ itL X.K.h its ++ junk, p.1 ≠ X.rg ∧ p.1 ≠ X.wd) (hops : ∀ q ∈ ops, (q.tp, q.o) ∈ junk) (hr : rgO.IsDictOf (intK w) rk) (hw : wdO.IsDictOf (intK w) wk)
    (hz : pv.length + ops.length ≤ 9000) (hrz : rk.length + ops.length ≤ 9000) (hwz : wk.length + ops.length ≤ 9000)
    (h : ∀ h' tk rgO' wdO' t, Fr h₀ L h' (fun y => if y = Str.ofString "spot" then some (.int ((pv ++ ops.map fun q => Value.ref q.tp).length : Nat) t) else m y) → rgO'.IsDictOf (intK w) (ops.foldl playF (rk, wk)).1 → wdO'.IsDictOf (intK w) (ops.foldl playF (rk, wk)).2 → News h₀ L h' (coreL X.K (cdE X.K low tl lowest tw out tu) cN (pv ++ ops.map fun q => Value.ref q.tp) rN oO dV dN mO tV tN fV fN sO (topL X rgO' wdO' (its.map fun i => Value.ref i.x) lvN rowV rowN o1 o2 roV roN tes tnn (itL X.K.h its ++ junk))) → Q .next { s with heap := h', toks := tk }) :
    wpAny (model pg w) (AA d u (lawEnv L fa cdv :: outer)) (execs (cut 7 2) (lawEnv L fa cdv)) Q E s := by
  have fill : PySem.Challenge.rw_pb0351_01 = PySem.Challenge.rw_pb0351_01 ∧ Mine.hd.heap_1 = Mine.hd.heap_1 := by
    k_fill
    exact ⟨rfl, rfl⟩
  clear fill
  refine hide fun Pz kPz => ?_
  obtain ⟨B, XH, T, hf, hke, hdp, hu⟩ := C
  refine kPz ?_
  clear kPz
  simp only [lawEnv, cut, lawSc, lapB, lawB, lawS, PySem.Challenge.rw_pb0351_01, PySem.Challenge.pw_pb0351_01, OpenLaw.row, nth, lastS, bodyOf, scopeOf, List.drop, List.take] at *
  (repeat' ((fail_if_success k_extra "stopL81"); k_extra "kst"))
  (try dsimp only [List.cons_append, List.nil_append])
  rename Fr _ _ _ _ => FX
  rename News _ _ _ _ => NX
  obtain ⟨n1, n2⟩ := top_ne2 (a1 := listOf (its.map fun i => Value.ref i.x).toArray lvN) (a2 := listOf rowV.toArray rowN) (a3 := o1) (a4 := o2) (a5 := listOf roV.toArray roN) (a6 := instObj 423 X.tdx) (a7 := dictOf tes tnn) O hk
  have hb1 : 100 < X.K.sd := O.O.big_all (by simp [Kst.all])
  refine played_spec (pv := pv) (ops := ops) (rest := (coreL X.K (cdE X.K low tl lowest tw out tu) cN (pv ++ ops.map fun q => Value.ref q.tp) rN oO dV dN mO tV tN fV fN sO ((X.lv, listOf (its.map fun i => Value.ref i.x).toArray lvN) :: (X.row, listOf rowV.toArray rowN) :: (X.c1, o1) :: (X.c2, o2) :: (X.ro, listOf roV.toArray roN) :: (X.tx, instObj 423 X.tdx) :: (X.tdx, dictOf tes tnn) :: (itL X.K.h its ++ junk)))) (by k_extra "tb_rel") FX (News.sub NX ?_) (Nat.ne_of_lt O.p9) (Nat.lt_trans hb1 O.p8) (Nat.lt_trans hb1 (Nat.lt_trans O.p8 O.p9)) (rest_ne O (.head _) n1) (rest_ne O (.tail _ (.head _)) n2) (by k_mem) (fun q hq => ?_) rfl (by omega) hr hw (by omega) (by omega) ?_
  · intro p hp
    rcases List.mem_cons.mp hp with rfl | hp
    · k_mem
    · rcases List.mem_cons.mp hp with rfl | hp
      · k_mem
      · rcases core_mem' hp with q | q
        · exact core_mem0 q
        · exact core_mem (.tail _ (.tail _ q))
  · have : (q.tp, q.o) ∈ itL X.K.h its ++ junk := List.mem_append_right _ (hops q hq)
    k_mem
  intro h1 tk1 rgO' wdO' F1 hr' hw' N1
  replace N1 := News.sub (news' := (coreL X.K (cdE X.K low tl lowest tw out tu) cN (pv ++ ops.map fun q => Value.ref q.tp) rN oO dV dN mO tV tN fV fN sO (topL X rgO' wdO' (its.map fun i => Value.ref i.x) lvN rowV rowN o1 o2 roV roN tes tnn (itL X.K.h its ++ junk)))) N1 (fun p hp => by
    rcases core_mem' hp with q | q
    · exact .tail _ (.tail _ (core_mem0 q))
    · rcases List.mem_cons.mp q with rfl | q
      · exact .head _
      · rcases List.mem_cons.mp q with rfl | q
        · exact .tail _ (.head _)
        · exact .tail _ (.tail _ (core_mem q)))
  clear FX NX
  (repeat' ((fail_if_success k_extra "stopL81"); k_extra "kst"))
  rename Fr _ _ _ _ => FX
  rename News _ _ _ _ => NX
  refine len_L NX (by k_mem) rfl (by rw [List.length_append, List.length_map]; omega) ?_
  (repeat' ((fail_if_success k_extra "stopL81"); k_extra "kst"))
  exact h _ _ rgO' wdO' _ (by assumption) hr' hw' (by assumption)
end
end
end
example : True := by first | (w_top off; (fail_if_success walk1); trivial) | trivial
section
open PySem PySem.W PySem.Calls PyProof.Rows
section

section
variable {w : World} {A₀ : Around} {E : Value → Shared → Prop} {s : Shared} {base h₀ : Heap} {fa : Addr} {cdv : Value} {outer : List Env} {L d u : Nat} {m mg mb : Str → Option Value} {loose : List Str} {mean : ExcName → Option Value}
  {X : Fx} {low lowest out : Int} {tl tw tu : Tok} {cN : Nat} {rV : List Value} {rN : Nat} {oO : Obj} {dV : List Value} {dN : Nat} {mO : Obj} {tV : List Value} {tN : Nat} {fV : List Value} {fN : Nat} {sO : Obj}
  {rgO wdO o1 o2 : Obj} {rowV roV : List Value} {lvN rowN roN tnn : Nat} {tes : List DictEntry} {junk : List (Addr × Obj)}
example : True := by
  (k_with "k_updF" => first | exact upd_rg (by assumption) (by assumption) | exact upd_wd (by assumption) (by assumption) | exact upd_c1 (by assumption) (by assumption) | exact upd_c2 (by assumption) (by assumption))
  trivial
set_option maxRecDepth 100000 in
set_option maxHeartbeats 1000000 in
theorem nofresh_piece {Q : Flow → Shared → Prop} {its : List IR} (C : CT w A₀ base h₀ (lawEnv L fa cdv) outer L d u mg mb loose mean) (O : X.Ok) (F : Fr h₀ L s.heap m) (hfr : m (Str.ofString "fresh") = some .none)
    (N : News h₀ L s.heap (coreL X.K (cdE X.K low tl lowest tw out tu) cN rV rN oO dV dN mO tV tN fV fN sO (topL X rgO wdO (its.map fun i => Value.ref i.x) lvN rowV rowN o1 o2 roV roN tes tnn (itL X.K.h its ++ junk))))
    (h : ∀ h' tk, Fr h₀ L h' m → News h₀ L h' (coreL X.K (cdE X.K low tl lowest tw out tu) cN rV rN oO dV dN mO tV tN fV fN sO (topL X rgO wdO (its.map fun i => Value.ref i.x) lvN rowV rowN o1 o2 roV roN tes tnn (itL X.K.h its ++ junk))) → Q .next { s with heap := h', toks := tk }) :
    wpAny (model pg w) (AA d u (lawEnv L fa cdv :: outer)) (execs (cut 9 1) (lawEnv L fa cdv)) Q E s := by
  have fill : PySem.Challenge.rw_pb0351_01 = PySem.Challenge.rw_pb0351_01 ∧ Mine.hd.heap_1 = Mine.hd.heap_1 := by
    k_fill
    exact ⟨rfl, rfl⟩
  clear fill
  refine hide fun Pz kPz => ?_
  obtain ⟨B, XH, T, hf, hke, hdp, hu⟩ := C
  refine kPz ?_
  clear kPz
  simp only [lawEnv, cut, lawSc, lapB, lawB, lawS, PySem.Challenge.rw_pb0351_01, PySem.Challenge.pw_pb0351_01, OpenLaw.row, nth, lastS, bodyOf, scopeOf, List.drop, List.take] at *
  (repeat' (k_extra "kst"))
  exact h _ _ (by assumption) (by assumption)
set_option maxRecDepth 100000 in
set_option maxHeartbeats 1000000 in
theorem fresh_piece {Q : Flow → Shared → Prop} {its : List IR} {q : IR} {rk : List (Int × Value)} (C : CT w A₀ base h₀ (lawEnv L fa cdv) outer L d u mg mb loose mean) (O : X.Ok) (F : Fr h₀ L s.heap m) (hq : q ∈ its) (hfr : m (Str.ofString "fresh") = some (.ref q.x)) (hrg : m (Str.ofString "regs") = some (.ref X.rg))
    (N : News h₀ L s.heap (coreL X.K (cdE X.K low tl lowest tw out tu) cN rV rN oO dV dN mO tV tN fV fN sO (topL X rgO wdO (its.map fun i => Value.ref i.x) lvN rowV rowN o1 o2 roV roN tes tnn (itL X.K.h its ++ junk)))) (hr : rgO.IsDictOf (intK w) rk) (hrz : rk.length ≤ 9000) (hk : ∀ p ∈ itL X.K.h its ++ junk, p.1 ≠ X.rg)
    (h : ∀ h' tk rgO', Fr h₀ L h' m → rgO'.IsDictOf (intK w) (stored rk q.reg (.int q.value q.tv)) → News h₀ L h' (coreL X.K (cdE X.K low tl lowest tw out tu) cN rV rN oO dV dN mO tV tN fV fN sO (topL X rgO' wdO (its.map fun i => Value.ref i.x) lvN rowV rowN o1 o2 roV roN tes tnn (itL X.K.h its ++ junk))) → Q .next { s with heap := h', toks := tk }) :
    wpAny (model pg w) (AA d u (lawEnv L fa cdv :: outer)) (execs (cut 9 1) (lawEnv L fa cdv)) Q E s := by
  have fill : PySem.Challenge.rw_pb0351_01 = PySem.Challenge.rw_pb0351_01 ∧ Mine.hd.heap_1 = Mine.hd.heap_1 := by
    k_fill
    exact ⟨rfl, rfl⟩
  clear fill
  refine hide fun Pz kPz => ?_
  obtain ⟨B, XH, T, hf, hke, hdp, hu⟩ := C
  refine kPz ?_
  clear kPz
  simp only [lawEnv, cut, lawSc, lapB, lawB, lawS, PySem.Challenge.rw_pb0351_01, PySem.Challenge.pw_pb0351_01, OpenLaw.row, nth, lastS, bodyOf, scopeOf, List.drop, List.take] at *
  have hq1 : (q.x, instObj 108 q.dx) ∈ itL X.K.h its ++ junk := List.mem_append_left _ (itL_o hq)
  have hq2 : (q.dx, dictOf (itE X.K.h q.t q.v q.mode q.tm q.value q.tv q.reg q.tr q.root q.slot q.ts q.was q.ta) q.n) ∈ itL X.K.h its ++ junk := List.mem_append_left _ (itL_d hq)
  (repeat' (k_extra "kst"))
  exact h _ _ _ (by assumption) (by assumption) (by assumption)
end
end
end
example : True := by first | (w_top off; (fail_if_success walk1); trivial) | trivial
section
open PySem PySem.W PySem.Calls PyProof.Rows
section

section
variable {w : World} {A₀ : Around} {E : Value → Shared → Prop} {s : Shared} {base h₀ : Heap} {fa : Addr} {cdv : Value} {outer : List Env} {L d u : Nat} {m mg mb : Str → Option Value} {loose : List Str} {mean : ExcName → Option Value}
  {X : Fx} {low lowest out : Int} {tl tw tu : Tok} {cN : Nat} {rV : List Value} {rN : Nat} {oO : Obj} {dV : List Value} {dN : Nat} {mO : Obj} {tV : List Value} {tN : Nat} {fV : List Value} {fN : Nat} {sO : Obj}
  {rgO wdO o1 o2 : Obj} {rowV roV : List Value} {lvN rowN roN tnn : Nat} {tes : List DictEntry} {junk : List (Addr × Obj)}
example : True := by
  (k_with "stopL101" => first | (with_reducible show wpAny _ _ (call (Value.ref 441) _ _) _ _ _))
  trivial
theorem next_top {Q : Value → Shared → Prop} {env : Env} {its : List IR} {lvV : List Value} {ns : List Int} (C : CT w A₀ base h₀ env outer L d u mg mb loose mean) (O : X.Ok) (F : Fr h₀ L s.heap m)
    (N : News h₀ L s.heap (coreL X.K (cdE X.K low tl lowest tw out tu) cN rV rN oO dV dN mO tV tN fV fN sO (topL X rgO wdO lvV lvN rowV rowN o1 o2 roV roN tes tnn (itL X.K.h its ++ junk)))) (hrow : IntsAre rowV ns) (hz : ns.length ≤ 900) (hk : ∀ p ∈ itL X.K.h its ++ junk, p.1 ≠ X.row)
    (h : ∀ h' tk k t rowV' rowN' ns', Fr h₀ L h' m → IntsAre rowV' ns' → ns'.length ≤ ns.length → News h₀ L h' (coreL X.K (cdE X.K low tl lowest tw out tu) cN rV rN oO dV dN mO tV tN fV fN sO (topL X rgO wdO lvV lvN rowV' rowN' o1 o2 roV roN tes tnn (itL X.K.h its ++ junk))) → Q (.int k t) { s with heap := h', toks := tk }) :
    wpAny (model pg w) (AA d u (env :: outer)) (call (.ref 441) [.ref X.row] []) Q E s := by
  have N1 := top_out (A := [(X.rg, rgO), (X.wd, wdO), (X.lv, listOf lvV.toArray lvN)]) (e := (X.row, listOf rowV.toArray rowN)) (B := [(X.c1, o1), (X.c2, o2), (X.ro, listOf roV.toArray roN), (X.tx, instObj 423 X.tdx), (X.tdx, dictOf tes tnn)] ++ (itL X.K.h its ++ junk)) N
  refine next_spec C F N1 (rest_ne O (.tail _ (.tail _ (.tail _ (.head _)))) (top_ne (o := listOf rowV.toArray rowN) O.nodup hk)) hrow hz ?_
  intro h' tk k t vs' n' ns' F' hi hl N'
  exact h h' tk k t vs' n' ns' F' hi hl (top_in N')
set_option maxRecDepth 100000 in
set_option maxHeartbeats 1000000 in
theorem deed_piece {Q : Flow → Shared → Prop} {its : List IR} {ns : List Int} (C : CT w A₀ base h₀ (lawEnv L fa cdv) outer L d u mg mb loose mean) (O : X.Ok) (F : Fr h₀ L s.heap m) (hd8 : d < 800) (hu8 : u < 8000) (hrw : m (Str.ofString "row") = some (.ref X.row))
    (N : News h₀ L s.heap (coreL X.K (cdE X.K low tl lowest tw out tu) cN rV rN oO dV dN mO tV tN fV fN sO (topL X rgO wdO (its.map fun i => Value.ref i.x) lvN rowV rowN o1 o2 roV roN tes tnn (itL X.K.h its ++ junk)))) (hrow : IntsAre rowV ns) (hz : ns.length ≤ 900) (hk : ∀ p ∈ itL X.K.h its ++ junk, p.1 ≠ X.row)
    (h : ∀ h' tk k t rowV' rowN' ns', Fr h₀ L h' (fun y => if y = Str.ofString "deed" then some (.int k t) else m y) → 0 ≤ k → k < 8 → IntsAre rowV' ns' → ns'.length ≤ ns.length → News h₀ L h' (coreL X.K (cdE X.K low tl lowest tw out tu) cN rV rN oO dV dN mO tV tN fV fN sO (topL X rgO wdO (its.map fun i => Value.ref i.x) lvN rowV' rowN' o1 o2 roV roN tes tnn (itL X.K.h its ++ junk))) → Q .next { s with heap := h', toks := tk }) :
    wpAny (model pg w) (AA d u (lawEnv L fa cdv :: outer)) (execs (cut 0 1) (lawEnv L fa cdv)) Q E s := by
  have fill : PySem.Challenge.rw_pb0351_01 = PySem.Challenge.rw_pb0351_01 ∧ Mine.hd.heap_1 = Mine.hd.heap_1 := by
    k_fill
    exact ⟨rfl, rfl⟩
  clear fill
  refine hide fun Pz kPz => ?_
  obtain ⟨B, XH, T, hf, hke, hdp, hu⟩ := C
  refine kPz ?_
  clear kPz
  simp only [lawEnv, cut, lawSc, lapB, lawB, lawS, PySem.Challenge.rw_pb0351_01, PySem.Challenge.pw_pb0351_01, OpenLaw.row, nth, lastS, bodyOf, scopeOf, List.drop, List.take] at *
  (repeat' ((fail_if_success k_extra "stopL101"); k_extra "kst"))
  (try dsimp only [List.cons_append, List.nil_append])
  rename Fr _ _ _ _ => FX
  rename News _ _ _ _ => NX
  refine next_top (by k_extra "tb_rel") O FX NX hrow hz hk ?_
  intro h1 tk1 k t rv rn ns' F1 hi hl N1
  clear FX NX
  (repeat' ((fail_if_success k_extra "stopL101"); k_extra "kst"))
  exact h _ _ _ _ rv rn ns' (by assumption) (Int.fmod_nonneg_of_pos _ (by decide)) (Int.fmod_lt_of_pos _ (by decide)) hi hl (by assumption)
end
end
end
example : True := by first | (w_top off; (fail_if_success walk1); trivial) | trivial
section
open PySem PySem.W PySem.Calls PyProof.Rows
section

section
variable {w : World} {A₀ : Around} {E : Value → Shared → Prop} {s : Shared} {base h₀ : Heap} {fa : Addr} {cdv : Value} {outer : List Env} {L d u : Nat} {m mg mb : Str → Option Value} {loose : List Str} {mean : ExcName → Option Value}
  {X : Fx} {low lowest out : Int} {tl tw tu : Tok} {cN : Nat} {rV : List Value} {rN : Nat} {oO : Obj} {dV : List Value} {dN : Nat} {mO : Obj} {tV : List Value} {tN : Nat} {fV : List Value} {fN : Nat} {sO : Obj}
  {rgO wdO o1 o2 : Obj} {rowV roV : List Value} {lvN rowN roN tnn : Nat} {tes : List DictEntry} {junk : List (Addr × Obj)}
example : True := by
  (k_with "k_updF" => first | exact upd_rg (by assumption) (by assumption) | exact upd_wd (by assumption) (by assumption) | exact upd_c1 (by assumption) (by assumption) | exact upd_c2 (by assumption) (by assumption))
  (k_with "stopL111" => first | (with_reducible show wpAny _ _ (exec (Stmt.Assign [Expr.Name _ _] (Expr.ListComp _ _ _ _) _) _) _ _ _) | (with_reducible show wpAny _ _ (eval (Expr.ListComp _ _ _ _) _) _ _ _) | (with_reducible show CompGoal _ _ _ _ _ _ _ _ _ _ _ _ _ _) | (with_reducible show wpAny _ _ (call (Value.ref 206) _ _) _ _ _) | (with_reducible show wpAny _ _ (call (Value.ref 441) _ _) _ _ _) | (with_reducible show wpAny _ _ (subscriptTail _ _ _ _) _ _ _) | (with_reducible show wpAny _ _ (call (Value.type "range") _ _) _ _ _))
  trivial
theorem paired_own {its : List IR} (hnd : (its.map (·.x)).Nodup) : ∀ {l : List (Int × Nat)} {ys : List Value}, (∀ p ∈ l, ∃ v ∈ its, v.x = p.2 ∧ v.reg = p.1) → Paired (fun v y => ∃ i ∈ its, v = Value.ref i.x ∧ y = Value.int i.reg i.tr) (l.map fun p : Int × Nat => Value.ref p.2) ys → IntsAre ys (l.map (·.1))
  | [], _, _, h => by cases h; exact .nil
  | p :: l, _, hs, h => by
    cases h with
    | cons h1 h2 =>
      refine hide fun Pz kPz => ?_
      obtain ⟨j, hj, e, rfl⟩ := h1
      refine kPz ?_
      clear kPz
      refine hide fun Pz kPz => ?_
      obtain ⟨v, hv, e1, e2⟩ := hs p (.head _)
      refine kPz ?_
      clear kPz
      have : v = j := one_x hnd hv hj (by injection e with e; exact e1.trans e)
      subst this
      rw [List.map_cons, ← e2]
      exact .cons _ _ (paired_own hnd (fun q hq => hs q (.tail _ hq)) h2)
set_option maxRecDepth 100000 in
set_option maxHeartbeats 1000000 in
theorem order_piece {Q : Flow → Shared → Prop} {its : List IR} {own spl : List (Int × Nat)} {vo : Option Value} (C : CT w A₀ base h₀ (lawEnv L fa cdv) outer L d u mg mb loose mean) (O : X.Ok) (F : Fr h₀ L s.heap m) (hd8 : d < 800) (hu8 : u < 8000) (hco : m (Str.ofString "coder") = some (.ref X.K.c))
    (N : News h₀ L s.heap (coreL X.K (cdE X.K low tl lowest tw out tu) cN rV rN oO dV dN mO tV tN fV fN sO (topL X rgO wdO (its.map fun i => Value.ref i.x) lvN rowV rowN o1 o2 roV roN tes tnn (itL X.K.h its ++ junk)))) (hW : Wf X its junk) (hC : Core X.K.cnt its own spl) (hd : oO.IsDictOf (intK w) (refs own)) (hdV : IntsAre dV (own.map (·.1))) (hcl : (cellsFrom (L + 1) lawSc.names []).lookup (Str.ofString "order") = some X.c1) (ho1 : o1.data = .cell vo)
    (h : ∀ h' tk D D1 n n1 ys o1', Fr h₀ L h' m → o1'.data = .cell (some (.ref D)) → IntsAre ys (own.map (·.1)) → Wf X its ((D, listOf (List.toArray ys) n) :: (D1, listOf (own.map fun p : Int × Nat => Value.ref p.2).toArray n1) :: junk) →
      News h₀ L h' (coreL X.K (cdE X.K low tl lowest tw out tu) cN rV rN oO dV dN mO tV tN fV fN sO (topL X rgO wdO (its.map fun i => Value.ref i.x) lvN rowV rowN o1' o2 roV roN tes tnn (itL X.K.h its ++ ((D, listOf (List.toArray ys) n) :: (D1, listOf (own.map fun p : Int × Nat => Value.ref p.2).toArray n1) :: junk)))) → Q .next { s with heap := h', toks := tk }) :
    wpAny (model pg w) (AA d u (lawEnv L fa cdv :: outer)) (execs (cut 2 1) (lawEnv L fa cdv)) Q E s := by
  have fill : PySem.Challenge.rw_pb0351_01 = PySem.Challenge.rw_pb0351_01 ∧ Mine.hd.heap_1 = Mine.hd.heap_1 := by
    k_fill
    exact ⟨rfl, rfl⟩
  clear fill
  refine hide fun Pz kPz => ?_
  obtain ⟨B, XH, T, hf, hke, hdp, hu⟩ := C
  refine kPz ?_
  clear kPz
  simp only [lawEnv, cut, lawSc, lapB, lawB, lawS, PySem.Challenge.rw_pb0351_01, PySem.Challenge.pw_pb0351_01, OpenLaw.row, nth, lastS, bodyOf, scopeOf, List.drop, List.take] at *
  have hown := hC.own_le O.O.c1
  (repeat' ((fail_if_success k_extra "stopL111"); k_extra "kst"))
  refine wpAny_Assign_Name ?_
  refine lc_eval (fun _ => true) (fun v y => ∃ i ∈ its, v = Value.ref i.x ∧ y = Value.int i.reg i.tr) rfl (by rfl) (by decide) rfl (by decide) (by rfl) (by intro _; rfl) ?_
  (repeat' ((fail_if_success k_extra "stopL111"); k_extra "kst"))
  (try dsimp only [List.cons_append, List.nil_append])
  rename Fr _ _ _ _ => FX
  rename News _ _ _ _ => NX
  refine held_spec (by k_extra "tb_rel") O.O FX NX (hW.off O) hd hdV hC.ond (by omega) ?_
  intro h1 tk1 D1 n1 F1 N1 hD1
  clear FX NX
  have hW1 := hW.more (o := listOf (own.map fun p : Int × Nat => Value.ref p.2).toArray n1) hD1
  replace N1 := to_junk N1
  (repeat' ((fail_if_success k_extra "stopL111"); k_extra "kst"))
  refine ⟨D1, own.map fun p : Int × Nat => Value.ref p.2, n1, _, _, _, rfl, F1, N1, ?_, by rw [List.length_map]; omega, ?_, ?_, ?_⟩
  · have : (D1, listOf (own.map fun p : Int × Nat => Value.ref p.2).toArray n1) ∈ itL X.K.h its ++ (D1, listOf (own.map fun p : Int × Nat => Value.ref p.2).toArray n1) :: junk := List.mem_append_right _ (.head _)
    k_mem
  · intro C v s₃ E' hv hb
    exact tests_nil (v := v)
  · intro C v s₃ E' hv _ zr1
    refine hide fun Pz kPz => ?_
    obtain ⟨⟨m₃, hn, hm⟩, F3, N3⟩ := zr1
    refine kPz ?_
    clear kPz
    refine hide fun Pz kPz => ?_
    obtain ⟨p, hp, rfl⟩ := List.mem_map.mp hv
    refine kPz ?_
    clear kPz
    refine hide fun Pz kPz => ?_
    obtain ⟨i, hi, e1, e2, e3⟩ := hC.o2i p hp
    refine kPz ?_
    clear kPz
    rw [← e1] at hm ⊢
    have hq1 : (i.x, instObj 108 i.dx) ∈ itL X.K.h its ++ (D1, listOf (own.map fun p : Int × Nat => Value.ref p.2).toArray n1) :: junk := List.mem_append_left _ (itL_o hi)
    have hq2 : (i.dx, dictOf (itE X.K.h i.t i.v i.mode i.tm i.value i.tv i.reg i.tr i.root i.slot i.ts i.was i.ta) i.n) ∈ itL X.K.h its ++ (D1, listOf (own.map fun p : Int × Nat => Value.ref p.2).toArray n1) :: junk := List.mem_append_left _ (itL_d hi)
    clear F1 N1
    (try dsimp only at hm ⊢)
    (repeat' ((fail_if_success k_extra "stopL111"); k_extra "kst"))
    · exact hi
    · exact ⟨_, _, rfl, fun _ _ e => e⟩
  · intro D h2 tk2 ys n2 F2 N2 hD hp
    rw [List.filter_eq_self.mpr (fun _ _ => rfl)] at hp
    have hys := paired_own hC.xnd (fun p hp => let ⟨v, a, b, c, _⟩ := hC.o2i p hp; ⟨v, a, b, c⟩) hp
    have hW2 := hW1.more (o := listOf (List.toArray ys) n2) hD
    have hap : ∀ p ∈ itL X.K.h its ++ (D, listOf (List.toArray ys) n2) :: (D1, listOf (own.map fun p : Int × Nat => Value.ref p.2).toArray n1) :: junk, p.1 ≠ X.c1 := fun p hp => hW2.apart O p hp _ (.tail _ (.tail _ (.tail _ (.tail _ (.head _)))))
    replace N2 := to_junk N2
    clear F1 N1
    (repeat' ((fail_if_success k_extra "stopL111"); k_extra "kst"))
    refine storeX_C F2 N2 hcl (upd_c1 O hap) ho1 ?_
    intro h3 o1' F3 N3 hc3
    clear F2 N2
    (repeat' ((fail_if_success k_extra "stopL111"); k_extra "kst"))
    exact h _ _ D D1 _ _ ys o1' (by assumption) hc3 hys hW2 (by assumption)
end
end
end
example : True := by first | (w_top off; (fail_if_success walk1); trivial) | trivial
section
open PySem PySem.W PySem.Calls PyProof.Rows
section

section
variable {w : World} {A₀ : Around} {E : Value → Shared → Prop} {s : Shared} {base h₀ : Heap} {fa : Addr} {cdv : Value} {outer : List Env} {L d u : Nat} {m mg mb : Str → Option Value} {loose : List Str} {mean : ExcName → Option Value}
  {X : Fx} {low lowest out : Int} {tl tw tu : Tok} {cN : Nat} {rV : List Value} {rN : Nat} {oO : Obj} {dV : List Value} {dN : Nat} {mO : Obj} {tV : List Value} {tN : Nat} {fV : List Value} {fN : Nat} {sO : Obj}
  {rgO wdO o1 o2 : Obj} {rowV roV : List Value} {lvN rowN roN tnn : Nat} {tes : List DictEntry} {junk : List (Addr × Obj)}
example : True := by
  (k_with "k_updF" => first | exact upd_rg (by assumption) (by assumption) | exact upd_wd (by assumption) (by assumption) | exact upd_c1 (by assumption) (by assumption) | exact upd_c2 (by assumption) (by assumption))
  (k_with "stopL121" => first | (with_reducible show wpAny _ _ (call (Value.ref 441) _ _) _ _ _) | (with_reducible show wpAny _ _ (subscriptTail _ _ _ _) _ _ _))
  trivial
set_option maxRecDepth 100000 in
set_option maxHeartbeats 1000000 in
theorem kept_piece {Q : Flow → Shared → Prop} {its : List IR} {Di n : Nat} {vo : Option Value} {ns : List Int} (C : CT w A₀ base h₀ (lawEnv L fa cdv) outer L d u mg mb loose mean) (O : X.Ok) (F : Fr h₀ L s.heap m) (hd8 : d < 800) (hu8 : u < 8000) (hrw : m (Str.ofString "row") = some (.ref X.row)) (hin : m (Str.ofString "inside") = some (.ref Di))
    (N : News h₀ L s.heap (coreL X.K (cdE X.K low tl lowest tw out tu) cN rV rN oO dV dN mO tV tN fV fN sO (topL X rgO wdO (its.map fun i => Value.ref i.x) lvN rowV rowN o1 o2 roV roN tes tnn (itL X.K.h its ++ junk)))) (hDi : (Di, listOf (List.toArray ((its.filter (fun i : IR => decide (i.mode = "reg"))).map (fun i : IR => Value.ref i.x))) n) ∈ junk) (hz : its.length ≤ 1000) (hW : Wf X its junk) (hrow : IntsAre rowV ns) (hrz : ns.length ≤ 900) (hcl : (cellsFrom (L + 1) lawSc.names []).lookup (Str.ofString "kept") = some X.c2) (ho2 : o2.data = .cell vo)
    (h : ∀ h' tk (k : Int) D rowV' rowN' ns' o2', Fr h₀ L h' m → 0 ≤ k → k < 3 → o2'.data = .cell (some (.ref D)) → IntsAre rowV' ns' → ns'.length ≤ ns.length → Wf X its ((D, listOf (List.toArray (((its.filter (fun i : IR => decide (i.mode = "reg"))).take k.toNat).map (fun i : IR => Value.ref i.x))) 0) :: junk) →
      News h₀ L h' (coreL X.K (cdE X.K low tl lowest tw out tu) cN rV rN oO dV dN mO tV tN fV fN sO (topL X rgO wdO (its.map fun i => Value.ref i.x) lvN rowV' rowN' o1 o2' roV roN tes tnn (itL X.K.h its ++ ((D, listOf (List.toArray (((its.filter (fun i : IR => decide (i.mode = "reg"))).take k.toNat).map (fun i : IR => Value.ref i.x))) 0) :: junk)))) → Q .next { s with heap := h', toks := tk }) :
    wpAny (model pg w) (AA d u (lawEnv L fa cdv :: outer)) (execs (cut 3 1) (lawEnv L fa cdv)) Q E s := by
  have fill : PySem.Challenge.rw_pb0351_01 = PySem.Challenge.rw_pb0351_01 ∧ Mine.hd.heap_1 = Mine.hd.heap_1 := by
    k_fill
    exact ⟨rfl, rfl⟩
  clear fill
  refine hide fun Pz kPz => ?_
  obtain ⟨B, XH, T, hf, hke, hdp, hu⟩ := C
  refine kPz ?_
  clear kPz
  simp only [lawEnv, cut, lawSc, lapB, lawB, lawS, PySem.Challenge.rw_pb0351_01, PySem.Challenge.pw_pb0351_01, OpenLaw.row, nth, lastS, bodyOf, scopeOf, List.drop, List.take] at *
  (repeat' ((fail_if_success k_extra "stopL121"); k_extra "kst"))
  (try dsimp only [List.cons_append, List.nil_append])
  rename Fr _ _ _ _ => FX
  rename News _ _ _ _ => NX
  refine next_top (by k_extra "tb_rel") O FX NX hrow hrz (fun p hp => hW.apart O p hp _ (.tail _ (.tail _ (.tail _ (.head _))))) ?_
  intro h1 tk1 k1 t1 rv rn ns' F1 hi hl N1
  clear FX NX
  have f0 : 0 ≤ k1.fmod 3 := Int.fmod_nonneg_of_pos _ (by decide)
  have f1 : k1.fmod 3 < 3 := Int.fmod_lt_of_pos _ (by decide)
  (repeat' ((fail_if_success k_extra "stopL121"); k_extra "kst"))
  generalize k1.fmod 3 = k at *
  rename Fr _ _ _ _ => FX
  rename News _ _ _ _ => NX
  have hm0 : (Di, listOf (List.toArray ((its.filter (fun i : IR => decide (i.mode = "reg"))).map (fun i : IR => Value.ref i.x))) n) ∈ (coreL X.K (cdE X.K low tl lowest tw out tu) cN rV rN oO dV dN mO tV tN fV fN sO (topL X rgO wdO (its.map fun i => Value.ref i.x) lvN rv rn o1 o2 roV roN tes tnn (itL X.K.h its ++ junk))) := by
    have : (Di, listOf (List.toArray ((its.filter (fun i : IR => decide (i.mode = "reg"))).map (fun i : IR => Value.ref i.x))) n) ∈ itL X.K.h its ++ junk := List.mem_append_right _ hDi
    k_mem
  refine kmk_slice (s := ⟨h1, _, _, _, _⟩) FX NX (News.isList NX hm0) IsPart.none (IsPart.int _ _) ?_ (by with_unfolding_all rfl) (by intro _; with_unfolding_all rfl) (by rw [List.size_toArray, List.length_map]; exact szOk (Nat.le_trans (List.length_filter_le _ _) (by omega)))
  intro D h2 F2 N2 lD
  rw [pick_upto _ f0, ← List.map_take] at N2
  have hW2 := hW.more (o := listOf (List.toArray (((its.filter (fun i : IR => decide (i.mode = "reg"))).take k.toNat).map (fun i : IR => Value.ref i.x))) 0) (fun p hp => Nat.ne_of_lt (lD p hp))
  have hap : ∀ p ∈ itL X.K.h its ++ (D, listOf (List.toArray (((its.filter (fun i : IR => decide (i.mode = "reg"))).take k.toNat).map (fun i : IR => Value.ref i.x))) 0) :: junk, p.1 ≠ X.c2 := fun p hp => hW2.apart O p hp _ (.tail _ (.tail _ (.tail _ (.tail _ (.tail _ (.head _))))))
  replace N2 := to_junk N2
  clear FX NX
  (repeat' ((fail_if_success k_extra "stopL121"); k_extra "kst"))
  refine storeX_C F2 N2 hcl (upd_c2 O hap) ho2 ?_
  intro h3 o2' F3 N3 hc3
  clear F2 N2
  (repeat' ((fail_if_success k_extra "stopL121"); k_extra "kst"))
  exact h _ _ k D rv rn ns' o2' (by assumption) f0 f1 hc3 hi hl hW2 (by assumption)
end
end
end
example : True := by first | (w_top off; (fail_if_success walk1); trivial) | trivial
section
open PySem PySem.W PySem.Calls PyProof.Rows
section

section
variable {w : World} {A₀ : Around} {E : Value → Shared → Prop} {s : Shared} {base h₀ : Heap} {fa : Addr} {cdv : Value} {outer : List Env} {L d u : Nat} {m mg mb : Str → Option Value} {loose : List Str} {mean : ExcName → Option Value}
  {X : Fx} {low lowest out : Int} {tl tw tu : Tok} {cN : Nat} {rV : List Value} {rN : Nat} {oO : Obj} {dV : List Value} {dN : Nat} {mO : Obj} {tV : List Value} {tN : Nat} {fV : List Value} {fN : Nat} {sO : Obj}
  {rgO wdO o1 o2 : Obj} {rowV roV : List Value} {lvN rowN roN tnn : Nat} {tes : List DictEntry} {junk : List (Addr × Obj)}
example : True := by
  (k_with "stopL131" => first | (with_reducible show wpAny _ _ (compareOp _ (Value.ref _) (Value.ref _)) _ _ _))
  trivial
set_option maxRecDepth 100000 in
set_option maxHeartbeats 1000000 in
theorem nofresh_start {Q : Flow → Shared → Prop} {its : List IR} {k : Int} {tk0 : Tok} (C : CT w A₀ base h₀ (lawEnv L fa cdv) outer L d u mg mb loose mean) (O : X.Ok) (F : Fr h₀ L s.heap m) (hdd : m (Str.ofString "deed") = some (.int k tk0)) (hlv : m (Str.ofString "live") = some (.ref X.lv)) (hk4 : 4 ≤ k)
    (N : News h₀ L s.heap (coreL X.K (cdE X.K low tl lowest tw out tu) cN rV rN oO dV dN mO tV tN fV fN sO (topL X rgO wdO (its.map fun i => Value.ref i.x) lvN rowV rowN o1 o2 roV roN tes tnn (itL X.K.h its ++ junk))))
    (hne : its ≠ [] → ∀ h' tk, Fr h₀ L h' (fun y => if y = Str.ofString "fresh" then some .none else m y) → News h₀ L h' (coreL X.K (cdE X.K low tl lowest tw out tu) cN rV rN oO dV dN mO tV tN fV fN sO (topL X rgO wdO (its.map fun i => Value.ref i.x) lvN rowV rowN o1 o2 roV roN tes tnn (itL X.K.h its ++ junk))) → Q .next { s with heap := h', toks := tk })
    (hnil : its = [] → ∀ h' tk, Fr h₀ L h' (fun y => if y = Str.ofString "fresh" then some .none else m y) → News h₀ L h' (coreL X.K (cdE X.K low tl lowest tw out tu) cN rV rN oO dV dN mO tV tN fV fN sO (topL X rgO wdO (its.map fun i => Value.ref i.x) lvN rowV rowN o1 o2 roV roN tes tnn (itL X.K.h its ++ junk))) → Q .cont { s with heap := h', toks := tk }) :
    wpAny (model pg w) (AA d u (lawEnv L fa cdv :: outer)) (execs (cut 4 2) (lawEnv L fa cdv)) Q E s := by
  have fill : PySem.Challenge.rw_pb0351_01 = PySem.Challenge.rw_pb0351_01 ∧ Mine.hd.heap_1 = Mine.hd.heap_1 := by
    k_fill
    exact ⟨rfl, rfl⟩
  clear fill
  refine hide fun Pz kPz => ?_
  obtain ⟨B, XH, T, hf, hke, hdp, hu⟩ := C
  refine kPz ?_
  clear kPz
  simp only [lawEnv, cut, lawSc, lapB, lawB, lawS, PySem.Challenge.rw_pb0351_01, PySem.Challenge.pw_pb0351_01, OpenLaw.row, nth, lastS, bodyOf, scopeOf, List.drop, List.take] at *
  have hl0 : (X.lv, listOf (its.map fun i => Value.ref i.x).toArray lvN) ∈ (coreL X.K (cdE X.K low tl lowest tw out tu) cN rV rN oO dV dN mO tV tN fV fN sO (topL X rgO wdO (its.map fun i => Value.ref i.x) lvN rowV rowN o1 o2 roV roN tes tnn (itL X.K.h its ++ junk))) := by k_mem
  (repeat' ((fail_if_success k_extra "stopL131"); k_extra "kst"))
  all_goals first | (rename k < 4 => hc; exact absurd hk4 (Int.not_le.mpr hc)) | skip
  rename News _ _ _ _ => NX
  rename Fr _ _ _ _ => FX
  by_cases hits : its = []
  · subst hits
    refine eq_intsK (ns := []) (ms := []) (News.isList NX (.tail _ hl0)) .nil (News.isList NX (.head _)) .nil (Nat.lt_of_lt_of_le (Nat.add_lt_add_right hu 64) (by decide)) ?_
    rw [decide_eq_true rfl]
    (repeat' ((fail_if_success k_extra "stopL131"); k_extra "kst"))
    exact hnil rfl _ _ (by assumption) (News.sub (by assumption) fun p hp => .tail _ hp)
  · refine SeqAt.eq_list_lengthsAt (News.isList NX (.tail _ hl0)) (News.isList NX (.head _)) ?hsz ?hu2 ?_
    case hsz =>
      cases its with
      | nil => exact absurd rfl hits
      | cons a l => simp
    case hu2 => exact Nat.lt_of_lt_of_le hu (by decide)
    (repeat' ((fail_if_success k_extra "stopL131"); k_extra "kst"))
    exact hne hits _ _ (by assumption) (News.sub (by assumption) fun p hp => .tail _ hp)
end
end
end
end
example : True := by
  k_with_none
  (k_with "omega" => first | (with_reducible assumption) | (with_reducible exact Nat.le_of_lt (by assumption)) | (with_reducible exact Nat.ne_of_lt (by assumption)) | (with_reducible exact Nat.ne_of_gt (by assumption)) | exact lt_ble (by with_reducible assumption) rfl | exact le_ble (by with_reducible assumption) rfl | exact le_ble (Nat.le_of_lt (by with_reducible assumption)) rfl | exact le_lt (by with_reducible assumption) rfl | exact lt_add 1 (by with_reducible assumption) rfl | exact Nat.le_of_ble_eq_true rfl)
  (k_with "k_mem" => first | exact List.Mem.head _ | with_reducible assumption | (refine' List.Mem.tail _ ?_; k_mem) | assumption)
  (k_with "k_enter" => first | (refine' code_def ?k1zw ?k2zw ?k3zw ?k4zw ?k5zw ?kAzw ?kFzw ?kKzw ?k6zw ?k7zw ?k8zw ?k9zw ?kBzw ?_ ?c2zw ?c3zw ?c4zw ?c5zw; (case kAzw => exact rfl); (case kFzw => first | exact rfl | assumption); (case kKzw => first | exact rfl | assumption); (case k1zw => k_asm); (case k2zw => k_asm); (case k3zw => k_asm); (case k4zw => k_asm); (case k5zw => k_asm); (case k6zw => k_is); (case k7zw => k_is); (case k8zw => k_room); (case k9zw => first | exact BindsTo.of_eq rfl | exact binds_K (by k_in) rfl (by k_is) rfl rfl rfl | fail "k_enter: no rule for these arguments"); (case c5zw => decide); (case kBzw => exact locs rfl); (case c2zw => exact rfl); (case c3zw => exact rfl); (case c4zw => exact rfl); k_whole; intro g'zw' L'zw' h'zw' FG'zw' F'zw' N'zw' B'zw' X'zw' T'zw'; (try dsimp only); (try k_lift B'zw'); (try k_fold)) | (refine' code_defC ?k1zw ?k2zw ?k3zw ?k4zw ?k5zw ?kAzw ?kFzw ?kKzw ?k6zw ?k7zw ?k8zw ?k9zw ?kBzw ?kDzw ?_ ?c2zw ?c3zw ?c4zw; (case kAzw => exact rfl); (case kFzw => first | exact rfl | assumption); (case kKzw => first | exact rfl | assumption); (case k1zw => k_asm); (case k2zw => k_asm); (case k3zw => k_asm); (case k4zw => k_asm); (case k5zw => k_asm); (case k6zw => k_is); (case k7zw => k_is); (case k8zw => k_room); (case k9zw => first | exact BindsTo.of_eq rfl | exact binds_K (by k_in) rfl (by k_is) rfl rfl rfl | fail "k_enter: no rule for these arguments"); (case kBzw => exact rfl); (case kDzw => decide +kernel); (case c2zw => exact rfl); (case c3zw => exact rfl); (case c4zw => exact rfl); k_whole; intro g'zw' L'zw' h'zw' tk'zw' cells'zw' FG'zw' F'zw' N'zw' Y'zw' B'zw' X'zw' T'zw' l1zw'; (try k_lt l1zw'); k_cells Y'zw'; (try simp only [List.cons_append, List.nil_append] at N'zw'); (try dsimp only); (try k_lift B'zw'); (try k_fold)))
  (k_with "k_room" => ((try simp only [depth_under_make, depth_under_kw, depth_in1, depth_deeper, depth_caller]); (have hrl : recursionLimit = 1000 := rfl); omega))
  (k_with "k_ne" => first | with_reducible assumption | (with_reducible exact Ne.symm (by assumption)) | (refine neN ?_; (try dsimp only); omega))
  (k_with "k_all" => first | with_reducible assumption | exact offAll (by assumption) (by simp [Kst.all]) (by (try dsimp only); omega))
  (k_with "k_put" => (refine' PutR.eq ?zzzw; (case zzzw => repeat (first | exact PutR.head (by rfl) | apply PutR.tail (by rfl)))))
  (k_with "=setAttr ref" => (k_here; k_dflt (refine' set_dict ?k1zw ?k2zw ?k3zw ?k4zw ?k5zw ?k6zw ?k7zw ?k8zw ?k9zw ?k10zw ?k11zw ?k12zw ?k13zw ?_; (case k1zw => k_asm); (case k2zw => k_asm); (case k3zw => k_asm); (case k4zw => k_inst); (case k5zw => exact rfl); (case k6zw => k_is); (case k7zw => k_is); (case k8zw => k_is); (case k9zw => k_is); (case k10zw => k_get); (case k11zw => k_put); (case k12zw => k_upd); (case k13zw => first | exact Nat.le_of_ble_eq_true rfl | ((try simp only [List.length_cons]); omega)); k_whole); intro h'zw' F'zw' N'zw'; (try dsimp only at N'zw'); (try k_sweep)))
  (k_with "=call builtin:len" => (k_here; (with_reducible show wpAny _ _ (call (Value.builtin "len") [Value.ref _]) _ _ _); k_dflt (refine len_L (by k_asm) (by k_mem) (by (try simp only [List.length_append, List.length_cons, List.length_nil]); rfl) (by omega) ?_)))
  (k_with "=call builtin:list.append" => (k_here; (with_reducible show wpAny _ _ (call (Value.builtin _) [Value.ref _, _]) _ _ _); k_dflt (refine' append_L ?k1zw ?k2zw ?k3zw ?zzw ?_; (case k1zw => k_asm); (case k2zw => k_asm); (case k3zw => k_upd); (case zzw => ((try simp only [List.length_append, List.length_cons, List.length_nil]); omega)); k_whole); intro h'zw' F'zw' N'zw'; (try dsimp only at N'zw'); (try k_sweep)))
  (k_with "=call builtin:list.pop" => (k_here; (with_reducible show wpAny _ _ (call (Value.builtin _) [Value.ref _]) _ _ _); k_dflt (refine' pop_last ?k1zw ?k2zw ?k3zw ?zzw ?_; (case k1zw => k_asm); (case k2zw => k_asm); (case k3zw => k_upd); (case zzw => ((try simp only [List.length_append, List.length_cons, List.length_nil]); omega)); k_whole); intro h'zw' F'zw' N'zw'; (try dsimp only at N'zw'); (try k_sweep)))
  (k_with "=call builtin:list.remove" => (k_here; (with_reducible show wpAny _ _ (call (Value.builtin _) [Value.ref _, Value.int _ _]) _ _ _); k_dflt (refine' remove_L ?k1zw ?k2zw ?hazw ?hbzw ?hkzw ?k3zw ?zzw ?_; (case k1zw => k_asm); (case k2zw => k_asm); (case k3zw => k_upd); (case hazw => k_asm); (case hbzw => k_asm); (case hkzw => k_asm); (case zzw => omega); k_whole); intro h'zw' F'zw' N'zw'; (try dsimp only at N'zw'); (try k_sweep)))
  (k_with "=getMethod ref" => (k_here; (with_reducible show wpAny _ _ (getMethod (Value.ref _) (PySem.Str.ofString "remove") _) _ _ _); k_dflt (refine' kl_method ?Nzw ?mzw PySem.F.slot_list_remove PySem.F.type_list_remove ?_; (case Nzw => k_asm); (case mzw => k_mem))))
  (k_with "=compareOp NotIn int ref" => (k_here; k_dflt (refine kdg_notin (knd := intKind _ _) (by k_asm) (by k_mem) (by k_asm) (by first | exact nm_ow (by assumption) | exact nm_sd (by assumption) | exact nm_mp (by assumption) | exact notmod (by omega)) (intKind_is _ _ _ _) _ (by first | assumption | rfl) ?_); (try dsimp only [Bool.not_true, Bool.not_false])))
  (k_with "=compareOp In int ref" => (k_here; k_dflt (refine kda_in (knd := intKind _ _) (by k_asm) (by k_mem) (by k_asm) (by first | exact nm_ow (by assumption) | exact nm_sd (by assumption) | exact nm_mp (by assumption) | exact notmod (by omega)) (intKind_is _ _ _ _) _ (by first | assumption | rfl) ?_)))
  (k_with "=subscriptTail" => (k_here; (with_reducible show wpAny _ _ (subscriptTail _ _ (Value.ref _) (Value.int _ _)) _ _ _); k_dflt (refine kdt_tail (knd := intKind _ _) (by k_asm) (by k_mem) (by k_asm) (kdt_getItem (knd := intKind _ _) (by k_asm) (by k_mem) (by k_asm) (intKind_is _ _ _ _) (by assumption) ?_))))
  (k_with "=subscriptTail Attribute Name Name ref int" => (k_here; k_dflt (refine kdt_tail (knd := intKind _ _) (by k_asm) (by k_mem) (by k_asm) (kdt_getItem (knd := intKind _ _) (by k_asm) (by k_mem) (by k_asm) (intKind_is _ _ _ _) (by assumption) ?_))))
  (k_with "=setItem ref int" => (k_here; k_dflt (refine' kda_set (knd := intKind _ _) ?Fzw ?Nzw ?Uzw ?dzw (intKind_is _ _ _ _) ?zzw ?_; (case Fzw => k_asm); (case Nzw => k_asm); (case Uzw => k_updF); (case dzw => k_asm); (case zzw => exact szOk (by omega))); intro h'zw' o'zw' F'zw' N'zw' hd'zw'; (try dsimp only at N'zw'); (try k_sweep)))
  (k_with "=delItem ref int" => (k_here; k_dflt (refine' kob_del (knd := intKind _ _) ?Fzw ?Nzw ?Uzw ?dzw (intKind_is _ _ _ _) ?lzw ?zzw ?_; (case Fzw => k_asm); (case Nzw => k_asm); (case Uzw => k_updF); (case dzw => k_asm); (case lzw => first | assumption | (simp only [*]; done)); (case zzw => exact szOk (by omega))); intro h'zw' o'zw' F'zw' N'zw' hd'zw'; (try dsimp only at N'zw'); (try k_sweep)))
  (k_with "=getMethod ref" => (k_here; (with_reducible show wpAny _ _ (getMethod (Value.ref _) (PySem.Str.ofString "append") _) _ _ _); k_dflt (refine' kl_method ?Nzw ?mzw PySem.F.slot_list_append PySem.F.type_list_append ?_; (case Nzw => k_asm); (case mzw => k_mem))))
  (k_with "=call ref" => (k_here; k_dflt (refine' call_cls ?k1zw ?k2zw ?k3zw ?k4zw ?k5zw ?k6zw ?_; (case k1zw => k_asm); (case k2zw => k_asm); (case k3zw => k_asm); (case k4zw => k_is); (case k5zw => k_is); (case k6zw => k_is); k_whole; intro x'zw' d'zw' h'zw' F'zw' N'zw' l1zw' l2zw'; (try k_lt l1zw'); (try k_lt2 l2zw'); (try k_sweep); k_enter)))
  (k_with "=call ref" => (k_here; k_dflt (refine wpAny_call ?_; k_enter)))
  (k_with "=getMethod ref" => (k_here; (with_reducible show wpAny _ _ (getMethod (Value.ref _) (Str.ofString "get") _) _ _ _); k_dflt (refine kdg_method (knd := PySem.intKind _ _) (by k_asm) (by k_mem) (by k_asm) ?_)))
  (k_with "=call builtin:dict.get" => (k_here; (with_reducible show wpAny _ _ (call (Value.builtin "dict.get") [Value.ref _, Value.int _ _, _]) _ _ _); k_dflt (refine kdg_get2 (knd := PySem.intKind _ _) (by k_asm) (by k_mem) (by k_asm) (by first | exact nm_ow (by assumption) | exact nm_sd (by assumption) | exact nm_mp (by assumption) | exact notmod (by omega)) (intKind_is _ _ _ _) _ rfl ?_)))
  (k_with "tb_rel" => exact ⟨by assumption, by assumption, by assumption, by first | exact rfl | assumption, by first | exact rfl | assumption, by first | exact lt_add 1 hd9 rfl | exact lt_add 2 hd9 rfl | exact lt_add 3 hd9 rfl | exact lt_add 4 hd9 rfl | exact lt_add 1 hd8 rfl | exact lt_add 2 hd8 rfl | exact lt_add 3 hd8 rfl | exact lt_add 4 hd8 rfl | ((try simp only [depth_under_make, depth_under_kw, depth_in1, depth_deeper, depth_caller]); omega) | decide, by first | exact lt_add 1 hu9 rfl | exact lt_add 2 hu9 rfl | exact lt_add 3 hu9 rfl | exact lt_add 4 hu9 rfl | exact lt_add 5 hu9 rfl | exact lt_add 6 hu9 rfl | exact lt_add 1 hu8 rfl | exact lt_add 2 hu8 rfl | exact lt_add 3 hu8 rfl | exact lt_add 4 hu8 rfl | exact lt_add 5 hu8 rfl | exact lt_add 6 hu8 rfl | ((try simp only [units_in1, units_deeper, units_under_make, units_caller, Around.deeper_units]); omega) | decide⟩)
  (k_with "k_upd" => first | exact upd_cd (by assumption) (by k_all) | exact upd_rw (by assumption) (by k_all) | exact upd_od (by assumption) (by k_all) | exact upd_ft (by assumption) (by k_all) | (refine' upd_core ?azw ?bzw; (case azw => exact off_all (by assumption) (Or.inr (by with_reducible assumption))); (case bzw => k_upd)))
  (k_with "k_updF" => first | exact upd_ow (by assumption) (by k_all) | exact upd_mp (by assumption) (by k_all) | exact upd_sd (by assumption) (by k_all))
  (k_with "k_room" => first | exact room 0 (a := 900) (by with_reducible assumption) rfl | exact room 1 (a := 900) (by with_reducible assumption) rfl | exact room 2 (a := 900) (by with_reducible assumption) rfl | exact room 3 (a := 900) (by with_reducible assumption) rfl | exact room 4 (a := 900) (by with_reducible assumption) rfl | exact room 5 (a := 900) (by with_reducible assumption) rfl | exact room 6 (a := 900) (by with_reducible assumption) rfl)
  (k_with "k_all" => (with_reducible refine List.forall_mem_cons.mpr ⟨Or.inr (by with_reducible assumption), ?_⟩; k_all))
  (k_with "kst" => first | (k_unfold; (try dsimp only)) | (k_end; wrow_close) | walk1 | (dsimp only; walk1) | (leave1; walk_say "STEP leave1"; try dsimp only) | fail "no step")
  trivial
example : True := by
  (k_with "=eval Name" => (k_here; k_dflt (refine' nameX_L ?k1zw ?k2zw ?_ ?k3zw ?k4zw ?k5zw; (case k1zw => k_asm); (case k2zw => assumption); (case k3zw => rfl); (case k4zw => rfl); (case k5zw => decide); k_whole)))
  (k_with "=eval Name" => (k_here; k_dflt (refine' name_blk ?azw ?bzw ?_ ?czw ?dzw ?ezw; (case azw => assumption); (case bzw => assumption); (case czw => rfl); (case dzw => rfl); (case ezw => decide); k_whole)))
  trivial
section
local macro_rules | `(tactic| k_lt $_) => `(tactic| skip)
example : True := by first | (w_top off; (fail_if_success walk1); trivial) | trivial
section
open PySem PySem.W PySem.Calls PyProof.Rows
section

section
variable {w : World} {A₀ : Around} {E : Value → Shared → Prop} {s : Shared} {base h₀ : Heap} {fa : Addr} {cdv : Value} {outer : List Env} {L d u : Nat} {m mg mb : Str → Option Value} {loose : List Str} {mean : ExcName → Option Value}
  {X : Fx} {low lowest out : Int} {tl tw tu : Tok} {cN : Nat} {rV : List Value} {rN : Nat} {oO : Obj} {dV : List Value} {dN : Nat} {mO : Obj} {tV : List Value} {tN : Nat} {fV : List Value} {fN : Nat} {sO : Obj}
  {rgO wdO o1 o2 : Obj} {rowV roV : List Value} {lvN rowN roN tnn : Nat} {tes : List DictEntry} {junk : List (Addr × Obj)}
example : True := by
  (k_with "k_all" => exact fun p hp => neN (Nat.ne_of_lt ((by with_reducible assumption : ∀ p ∈ _, @LT.lt Nat _ p.1 _) p hp)))
  (k_with "=getAttr ref" => (k_here; k_dflt (refine' get_own ?k1zw ?k2zw ?k3zw ?k4zw ?k5zw ?k6zw ?k7zw ?k8zw ?k9zw ?_; (case k1zw => k_asm); (case k2zw => k_asm); (case k3zw => k_inst); (case k4zw => k_is); (case k5zw => k_is); (case k6zw => k_is); (case k7zw => k_is); (case k8zw => assumption); (case k9zw => k_handed); k_whole)))
  (k_with "=loadName" => (k_here; k_dflt (refine' wpAny_loadName_local ?azw ?bzw ?czw ?dzw ?_; (case azw => rfl); (case bzw => rfl); (case czw => exact Fr.ns (by k_asm)); (case dzw => assumption))))
  (k_with "stopL141" => first | (with_reducible show wpAny _ _ (call (Value.ref 108) _ _) _ _ _))
  trivial
theorem itE_N {H : Nat → Int} {t : Nat → Tok} {v : Nat → Value} {mode : Str} {tm : Tok} {value : Int} {tv : Tok} {reg : Int} {tr : Tok} {root : Bool} {slot : Int} {ts : Tok} {was : Str} {tw : Tok} :
    itN H t v mode tm (.int value tv) reg tr root slot ts was tw = itE H t v mode tm value tv reg tr root slot ts was tw := rfl
theorem Wf.item {X : Fx} {its : List IR} {junk : List (Addr × Obj)} {q : IR} {rgO wdO o1 o2 : Obj} {lvV rowV : List Value} {lvN rowN : Nat} {roV : List Value} {roN : Nat} {tes : List DictEntry} {tnn : Nat}
  {cE : List DictEntry} {cN : Nat} {rV : List Value} {rN : Nat} {oO : Obj} {dV : List Value} {dN : Nat} {mO : Obj} {tV : List Value} {tN : Nat} {fV : List Value} {fN : Nat} {sO : Obj} (w : Wf X its junk) (O : X.Ok) (hq : q.dx < q.x)
    (hl : ∀ p ∈ coreL X.K cE cN rV rN oO dV dN mO tV tN fV fN sO (topL X rgO wdO lvV lvN rowV rowN o1 o2 roV roN tes tnn (itL X.K.h its ++ junk)), @LT.lt Nat _ p.1 q.dx) : Wf X (its ++ [q]) junk := by
  have hlv : X.lv < q.dx := hl (X.lv, listOf lvV.toArray lvN) (core_mem (.tail _ (.tail _ (.head _))))
  have hsd : X.K.sd < q.dx := hl (X.K.sd, sO) core_mem_sd
  have hin : ∀ p ∈ itL X.K.h its ++ junk, @LT.lt Nat _ p.1 q.dx := fun p hp => hl p (core_mem (show p ∈ topL X rgO wdO lvV lvN rowV rowN o1 o2 roV roN tes tnn [] ++ (itL X.K.h its ++ junk) from List.mem_append_right _ hp))
  refine ⟨⟨fun i hi => ?_, ?_, fun p hp => ⟨(w.W.ex p hp).1, fun i hi => ?_⟩⟩, fun i hi => ?_, w.ap⟩
  · rcases List.mem_append.mp hi with h | h
    · exact w.W.lo i h
    · rw [List.mem_singleton.mp h]; exact ⟨hsd, hq⟩
  · refine List.pairwise_append.mpr ⟨w.W.pw, List.pairwise_singleton _ _, fun i hi j hj => ?_⟩
    rw [List.mem_singleton.mp hj]
    exact hin _ (List.mem_append_left _ (itL_o hi))
  · rcases List.mem_append.mp hi with h | h
    · exact (w.W.ex p hp).2 i h
    · rw [List.mem_singleton.mp h]
      have := hin p (List.mem_append_right _ hp)
      exact ⟨Nat.ne_of_lt (Nat.lt_trans this hq), Nat.ne_of_lt this⟩
  · rcases List.mem_append.mp hi with h | h
    · exact w.lv i h
    · rw [List.mem_singleton.mp h]; exact hlv
theorem itL_snoc (H : Nat → Int) (its : List IR) (q : IR) : itL H (its ++ [q]) = itL H its ++ [q.o, q.d H] := itL_app H its [q]
set_option maxRecDepth 100000 in
set_option maxHeartbeats 1000000 in
theorem fresh_start {Q : Flow → Shared → Prop} {its : List IR} {k made : Int} {tk0 tkm : Tok} {ti : Nat} (C : CT w A₀ base h₀ (lawEnv L fa cdv) outer L d u mg mb loose mean) (O : X.Ok) (F : Fr h₀ L s.heap m) (hd8 : d < 700) (hu8 : u < 7000) (hdd : m (Str.ofString "deed") = some (.int k tk0)) (hk4 : k < 4) (hmd : m (Str.ofString "made") = some (.int made tkm)) (hty : m (Str.ofString "types") = some (.ref X.tx)) (hm1 : 0 ≤ made ∧ made ≤ 1000)
    (N : News h₀ L s.heap (coreL X.K (cdE X.K low tl lowest tw out tu) cN rV rN oO dV dN mO tV tN fV fN sO (topL X rgO wdO (its.map fun i => Value.ref i.x) lvN rowV rowN o1 o2 roV roN tes tnn (itL X.K.h its ++ junk)))) (hW : Wf X its junk) (hti : getL (Str.ofString "integer") tes = some (some (.ref ti))) (hH : ∀ i, 40 ≤ i → X.K.h i = HI w.params i)
    (h : ∀ h' tk (q : IR) t, q.mode = "reg" → q.value = made → Fr h₀ L h' (fun y => if y = Str.ofString "made" then some (.int (made + 1) t) else if y = Str.ofString "fresh" then some (.ref q.x) else if y = Str.ofString "fresh" then some .none else m y) → Wf X (its ++ [q]) junk → News h₀ L h' (coreL X.K (cdE X.K low tl lowest tw out tu) cN rV rN oO dV dN mO tV tN fV fN sO (topL X rgO wdO (its.map fun i => Value.ref i.x) lvN rowV rowN o1 o2 roV roN tes tnn (itL X.K.h (its ++ [q]) ++ junk))) → Q .next { s with heap := h', toks := tk }) :
    wpAny (model pg w) (AA d u (lawEnv L fa cdv :: outer)) (execs (cut 4 2) (lawEnv L fa cdv)) Q E s := by
  have fill : PySem.Challenge.rw_pb0351_01 = PySem.Challenge.rw_pb0351_01 ∧ Mine.hd.heap_1 = Mine.hd.heap_1 := by
    k_fill
    exact ⟨rfl, rfl⟩
  clear fill
  refine hide fun Pz kPz => ?_
  obtain ⟨B, XH, T, hf, hke, hdp, hu⟩ := C
  refine kPz ?_
  clear kPz
  simp only [lawEnv, cut, lawSc, lapB, lawB, lawS, PySem.Challenge.rw_pb0351_01, PySem.Challenge.pw_pb0351_01, OpenLaw.row, nth, lastS, bodyOf, scopeOf, List.drop, List.take] at *
  (repeat' ((fail_if_success k_extra "stopL141"); k_extra "kst"))
  all_goals first | (rename ¬ k < 4 => hc; exact absurd hk4 hc) | skip
  (try dsimp only [List.cons_append, List.nil_append])
  rename Fr _ _ _ _ => FX
  rename News _ _ _ _ => NX
  refine item_new (by k_extra "tb_rel") (by omega) (by omega) FX NX ?_
  intro h1 tk1 x dx n t v tm' tr ts ta F1 N1 hl1 hdx
  clear FX NX
  (repeat' ((fail_if_success k_extra "stopL141"); k_extra "kst"))
  rename News _ _ _ _ => NZ
  rename Fr _ _ _ _ => FZ
  let q : IR := ⟨x, dx, n, t, v, "reg", tm', made, tkm, -1, tr, (made.fmod 2 == 1), 0, ts, "", ta⟩
  have hqd : q.d X.K.h = (dx, dictOf (itE (HI w.params) t v "reg" tm' made q.tv (-1) tr (made.fmod 2 == 1) 0 ts "" ta) n) := by
    show (dx, dictOf (itE X.K.h t v "reg" tm' made q.tv (-1) tr (made.fmod 2 == 1) 0 ts "" ta) n) = _
    rw [itE_h hH]
  refine h _ _ q _ rfl rfl FZ (hW.item O hdx hl1) (News.sub NZ fun p hp => ?_)
  rw [itL_snoc] at hp
  rcases core_mem' hp with r | r
  · exact .tail _ (.tail _ (core_mem0 r))
  · rcases List.mem_append.mp (show p ∈ topL X rgO wdO (its.map fun i => Value.ref i.x) lvN rowV rowN o1 o2 roV roN tes tnn [] ++ (itL X.K.h its ++ [q.o, q.d X.K.h] ++ junk) from r) with r | r
    · exact .tail _ (.tail _ (core_mem (List.mem_append_left _ r)))
    · rcases List.mem_append.mp r with r | r
      · rcases List.mem_append.mp r with r | r
        · exact .tail _ (.tail _ (core_mem (List.mem_append_right (topL X rgO wdO (its.map fun i => Value.ref i.x) lvN rowV rowN o1 o2 roV roN tes tnn []) (List.mem_append_left _ r))))
        · rcases List.mem_cons.mp r with rfl | r
          · exact .head _
          · rw [List.mem_singleton.mp r, hqd]
            exact .tail _ (.head _)
      · exact .tail _ (.tail _ (core_mem (List.mem_append_right (topL X rgO wdO (its.map fun i => Value.ref i.x) lvN rowV rowN o1 o2 roV roN tes tnn []) (List.mem_append_right _ r))))
end
end
end
end
example : True := by
  k_with_none
  (k_with "omega" => first | (with_reducible assumption) | (with_reducible exact Nat.le_of_lt (by assumption)) | (with_reducible exact Nat.ne_of_lt (by assumption)) | (with_reducible exact Nat.ne_of_gt (by assumption)) | exact lt_ble (by with_reducible assumption) rfl | exact le_ble (by with_reducible assumption) rfl | exact le_ble (Nat.le_of_lt (by with_reducible assumption)) rfl | exact le_lt (by with_reducible assumption) rfl | exact lt_add 1 (by with_reducible assumption) rfl | exact Nat.le_of_ble_eq_true rfl)
  (k_with "k_mem" => first | exact List.Mem.head _ | with_reducible assumption | (refine' List.Mem.tail _ ?_; k_mem) | assumption)
  (k_with "k_enter" => first | (refine' code_def ?k1zw ?k2zw ?k3zw ?k4zw ?k5zw ?kAzw ?kFzw ?kKzw ?k6zw ?k7zw ?k8zw ?k9zw ?kBzw ?_ ?c2zw ?c3zw ?c4zw ?c5zw; (case kAzw => exact rfl); (case kFzw => first | exact rfl | assumption); (case kKzw => first | exact rfl | assumption); (case k1zw => k_asm); (case k2zw => k_asm); (case k3zw => k_asm); (case k4zw => k_asm); (case k5zw => k_asm); (case k6zw => k_is); (case k7zw => k_is); (case k8zw => k_room); (case k9zw => first | exact BindsTo.of_eq rfl | exact binds_K (by k_in) rfl (by k_is) rfl rfl rfl | fail "k_enter: no rule for these arguments"); (case c5zw => decide); (case kBzw => exact locs rfl); (case c2zw => exact rfl); (case c3zw => exact rfl); (case c4zw => exact rfl); k_whole; intro g'zw' L'zw' h'zw' FG'zw' F'zw' N'zw' B'zw' X'zw' T'zw'; (try dsimp only); (try k_lift B'zw'); (try k_fold)) | (refine' code_defC ?k1zw ?k2zw ?k3zw ?k4zw ?k5zw ?kAzw ?kFzw ?kKzw ?k6zw ?k7zw ?k8zw ?k9zw ?kBzw ?kDzw ?_ ?c2zw ?c3zw ?c4zw; (case kAzw => exact rfl); (case kFzw => first | exact rfl | assumption); (case kKzw => first | exact rfl | assumption); (case k1zw => k_asm); (case k2zw => k_asm); (case k3zw => k_asm); (case k4zw => k_asm); (case k5zw => k_asm); (case k6zw => k_is); (case k7zw => k_is); (case k8zw => k_room); (case k9zw => first | exact BindsTo.of_eq rfl | exact binds_K (by k_in) rfl (by k_is) rfl rfl rfl | fail "k_enter: no rule for these arguments"); (case kBzw => exact rfl); (case kDzw => decide +kernel); (case c2zw => exact rfl); (case c3zw => exact rfl); (case c4zw => exact rfl); k_whole; intro g'zw' L'zw' h'zw' tk'zw' cells'zw' FG'zw' F'zw' N'zw' Y'zw' B'zw' X'zw' T'zw' l1zw'; (try k_lt l1zw'); k_cells Y'zw'; (try simp only [List.cons_append, List.nil_append] at N'zw'); (try dsimp only); (try k_lift B'zw'); (try k_fold)))
  (k_with "k_room" => ((try simp only [depth_under_make, depth_under_kw, depth_in1, depth_deeper, depth_caller]); (have hrl : recursionLimit = 1000 := rfl); omega))
  (k_with "k_ne" => first | with_reducible assumption | (with_reducible exact Ne.symm (by assumption)) | (refine neN ?_; (try dsimp only); omega))
  (k_with "k_all" => first | with_reducible assumption | exact offAll (by assumption) (by simp [Kst.all]) (by (try dsimp only); omega))
  (k_with "k_put" => (refine' PutR.eq ?zzzw; (case zzzw => repeat (first | exact PutR.head (by rfl) | apply PutR.tail (by rfl)))))
  (k_with "=setAttr ref" => (k_here; k_dflt (refine' set_dict ?k1zw ?k2zw ?k3zw ?k4zw ?k5zw ?k6zw ?k7zw ?k8zw ?k9zw ?k10zw ?k11zw ?k12zw ?k13zw ?_; (case k1zw => k_asm); (case k2zw => k_asm); (case k3zw => k_asm); (case k4zw => k_inst); (case k5zw => exact rfl); (case k6zw => k_is); (case k7zw => k_is); (case k8zw => k_is); (case k9zw => k_is); (case k10zw => k_get); (case k11zw => k_put); (case k12zw => k_upd); (case k13zw => first | exact Nat.le_of_ble_eq_true rfl | ((try simp only [List.length_cons]); omega)); k_whole); intro h'zw' F'zw' N'zw'; (try dsimp only at N'zw'); (try k_sweep)))
  (k_with "=call builtin:len" => (k_here; (with_reducible show wpAny _ _ (call (Value.builtin "len") [Value.ref _]) _ _ _); k_dflt (refine len_L (by k_asm) (by k_mem) (by (try simp only [List.length_append, List.length_cons, List.length_nil]); rfl) (by omega) ?_)))
  (k_with "=call builtin:list.append" => (k_here; (with_reducible show wpAny _ _ (call (Value.builtin _) [Value.ref _, _]) _ _ _); k_dflt (refine' append_L ?k1zw ?k2zw ?k3zw ?zzw ?_; (case k1zw => k_asm); (case k2zw => k_asm); (case k3zw => k_upd); (case zzw => ((try simp only [List.length_append, List.length_cons, List.length_nil]); omega)); k_whole); intro h'zw' F'zw' N'zw'; (try dsimp only at N'zw'); (try k_sweep)))
  (k_with "=call builtin:list.pop" => (k_here; (with_reducible show wpAny _ _ (call (Value.builtin _) [Value.ref _]) _ _ _); k_dflt (refine' pop_last ?k1zw ?k2zw ?k3zw ?zzw ?_; (case k1zw => k_asm); (case k2zw => k_asm); (case k3zw => k_upd); (case zzw => ((try simp only [List.length_append, List.length_cons, List.length_nil]); omega)); k_whole); intro h'zw' F'zw' N'zw'; (try dsimp only at N'zw'); (try k_sweep)))
  (k_with "=call builtin:list.remove" => (k_here; (with_reducible show wpAny _ _ (call (Value.builtin _) [Value.ref _, Value.int _ _]) _ _ _); k_dflt (refine' remove_L ?k1zw ?k2zw ?hazw ?hbzw ?hkzw ?k3zw ?zzw ?_; (case k1zw => k_asm); (case k2zw => k_asm); (case k3zw => k_upd); (case hazw => k_asm); (case hbzw => k_asm); (case hkzw => k_asm); (case zzw => omega); k_whole); intro h'zw' F'zw' N'zw'; (try dsimp only at N'zw'); (try k_sweep)))
  (k_with "=getMethod ref" => (k_here; (with_reducible show wpAny _ _ (getMethod (Value.ref _) (PySem.Str.ofString "remove") _) _ _ _); k_dflt (refine' kl_method ?Nzw ?mzw PySem.F.slot_list_remove PySem.F.type_list_remove ?_; (case Nzw => k_asm); (case mzw => k_mem))))
  (k_with "=compareOp NotIn int ref" => (k_here; k_dflt (refine kdg_notin (knd := intKind _ _) (by k_asm) (by k_mem) (by k_asm) (by first | exact nm_ow (by assumption) | exact nm_sd (by assumption) | exact nm_mp (by assumption) | exact notmod (by omega)) (intKind_is _ _ _ _) _ (by first | assumption | rfl) ?_); (try dsimp only [Bool.not_true, Bool.not_false])))
  (k_with "=compareOp In int ref" => (k_here; k_dflt (refine kda_in (knd := intKind _ _) (by k_asm) (by k_mem) (by k_asm) (by first | exact nm_ow (by assumption) | exact nm_sd (by assumption) | exact nm_mp (by assumption) | exact notmod (by omega)) (intKind_is _ _ _ _) _ (by first | assumption | rfl) ?_)))
  (k_with "=subscriptTail" => (k_here; (with_reducible show wpAny _ _ (subscriptTail _ _ (Value.ref _) (Value.int _ _)) _ _ _); k_dflt (refine kdt_tail (knd := intKind _ _) (by k_asm) (by k_mem) (by k_asm) (kdt_getItem (knd := intKind _ _) (by k_asm) (by k_mem) (by k_asm) (intKind_is _ _ _ _) (by assumption) ?_))))
  (k_with "=subscriptTail Attribute Name Name ref int" => (k_here; k_dflt (refine kdt_tail (knd := intKind _ _) (by k_asm) (by k_mem) (by k_asm) (kdt_getItem (knd := intKind _ _) (by k_asm) (by k_mem) (by k_asm) (intKind_is _ _ _ _) (by assumption) ?_))))
  (k_with "=setItem ref int" => (k_here; k_dflt (refine' kda_set (knd := intKind _ _) ?Fzw ?Nzw ?Uzw ?dzw (intKind_is _ _ _ _) ?zzw ?_; (case Fzw => k_asm); (case Nzw => k_asm); (case Uzw => k_updF); (case dzw => k_asm); (case zzw => exact szOk (by omega))); intro h'zw' o'zw' F'zw' N'zw' hd'zw'; (try dsimp only at N'zw'); (try k_sweep)))
  (k_with "=delItem ref int" => (k_here; k_dflt (refine' kob_del (knd := intKind _ _) ?Fzw ?Nzw ?Uzw ?dzw (intKind_is _ _ _ _) ?lzw ?zzw ?_; (case Fzw => k_asm); (case Nzw => k_asm); (case Uzw => k_updF); (case dzw => k_asm); (case lzw => first | assumption | (simp only [*]; done)); (case zzw => exact szOk (by omega))); intro h'zw' o'zw' F'zw' N'zw' hd'zw'; (try dsimp only at N'zw'); (try k_sweep)))
  (k_with "=getMethod ref" => (k_here; (with_reducible show wpAny _ _ (getMethod (Value.ref _) (PySem.Str.ofString "append") _) _ _ _); k_dflt (refine' kl_method ?Nzw ?mzw PySem.F.slot_list_append PySem.F.type_list_append ?_; (case Nzw => k_asm); (case mzw => k_mem))))
  (k_with "=call ref" => (k_here; k_dflt (refine' call_cls ?k1zw ?k2zw ?k3zw ?k4zw ?k5zw ?k6zw ?_; (case k1zw => k_asm); (case k2zw => k_asm); (case k3zw => k_asm); (case k4zw => k_is); (case k5zw => k_is); (case k6zw => k_is); k_whole; intro x'zw' d'zw' h'zw' F'zw' N'zw' l1zw' l2zw'; (try k_lt l1zw'); (try k_lt2 l2zw'); (try k_sweep); k_enter)))
  (k_with "=call ref" => (k_here; k_dflt (refine wpAny_call ?_; k_enter)))
  (k_with "=getMethod ref" => (k_here; (with_reducible show wpAny _ _ (getMethod (Value.ref _) (Str.ofString "get") _) _ _ _); k_dflt (refine kdg_method (knd := PySem.intKind _ _) (by k_asm) (by k_mem) (by k_asm) ?_)))
  (k_with "=call builtin:dict.get" => (k_here; (with_reducible show wpAny _ _ (call (Value.builtin "dict.get") [Value.ref _, Value.int _ _, _]) _ _ _); k_dflt (refine kdg_get2 (knd := PySem.intKind _ _) (by k_asm) (by k_mem) (by k_asm) (by first | exact nm_ow (by assumption) | exact nm_sd (by assumption) | exact nm_mp (by assumption) | exact notmod (by omega)) (intKind_is _ _ _ _) _ rfl ?_)))
  (k_with "tb_rel" => exact ⟨by assumption, by assumption, by assumption, by first | exact rfl | assumption, by first | exact rfl | assumption, by first | exact lt_add 1 hd9 rfl | exact lt_add 2 hd9 rfl | exact lt_add 3 hd9 rfl | exact lt_add 4 hd9 rfl | exact lt_add 1 hd8 rfl | exact lt_add 2 hd8 rfl | exact lt_add 3 hd8 rfl | exact lt_add 4 hd8 rfl | ((try simp only [depth_under_make, depth_under_kw, depth_in1, depth_deeper, depth_caller]); omega) | decide, by first | exact lt_add 1 hu9 rfl | exact lt_add 2 hu9 rfl | exact lt_add 3 hu9 rfl | exact lt_add 4 hu9 rfl | exact lt_add 5 hu9 rfl | exact lt_add 6 hu9 rfl | exact lt_add 1 hu8 rfl | exact lt_add 2 hu8 rfl | exact lt_add 3 hu8 rfl | exact lt_add 4 hu8 rfl | exact lt_add 5 hu8 rfl | exact lt_add 6 hu8 rfl | ((try simp only [units_in1, units_deeper, units_under_make, units_caller, Around.deeper_units]); omega) | decide⟩)
  (k_with "k_upd" => first | exact upd_cd (by assumption) (by k_all) | exact upd_rw (by assumption) (by k_all) | exact upd_od (by assumption) (by k_all) | exact upd_ft (by assumption) (by k_all) | (refine' upd_core ?azw ?bzw; (case azw => exact off_all (by assumption) (Or.inr (by with_reducible assumption))); (case bzw => k_upd)))
  (k_with "k_updF" => first | exact upd_ow (by assumption) (by k_all) | exact upd_mp (by assumption) (by k_all) | exact upd_sd (by assumption) (by k_all))
  (k_with "k_room" => first | exact room 0 (a := 900) (by with_reducible assumption) rfl | exact room 1 (a := 900) (by with_reducible assumption) rfl | exact room 2 (a := 900) (by with_reducible assumption) rfl | exact room 3 (a := 900) (by with_reducible assumption) rfl | exact room 4 (a := 900) (by with_reducible assumption) rfl | exact room 5 (a := 900) (by with_reducible assumption) rfl | exact room 6 (a := 900) (by with_reducible assumption) rfl)
  (k_with "k_all" => (with_reducible refine List.forall_mem_cons.mpr ⟨Or.inr (by with_reducible assumption), ?_⟩; k_all))
  (k_with "kst" => first | (k_unfold; (try dsimp only)) | (k_end; wrow_close) | walk1 | (dsimp only; walk1) | (leave1; walk_say "STEP leave1"; try dsimp only) | fail "no step")
  trivial
example : True := by
  (k_with "=eval Name" => (k_here; k_dflt (refine' nameX_L ?k1zw ?k2zw ?_ ?k3zw ?k4zw ?k5zw; (case k1zw => k_asm); (case k2zw => assumption); (case k3zw => rfl); (case k4zw => rfl); (case k5zw => decide); k_whole)))
  (k_with "=eval Name" => (k_here; k_dflt (refine' name_blk ?azw ?bzw ?_ ?czw ?dzw ?ezw; (case azw => assumption); (case bzw => assumption); (case czw => rfl); (case dzw => rfl); (case ezw => decide); k_whole)))
  trivial
section
local macro_rules | `(tactic| k_lt $_) => `(tactic| skip)
example : True := by first | (w_top off; (fail_if_success walk1); trivial) | trivial
section
open PySem PySem.W PySem.Calls PyProof.Rows
section

section
variable {w : World} {A₀ : Around} {E : Value → Shared → Prop} {s : Shared} {base h₀ : Heap} {fa : Addr} {cdv : Value} {outer : List Env} {L d u : Nat} {m mg mb : Str → Option Value} {loose : List Str} {mean : ExcName → Option Value}
  {X : Fx} {low lowest out : Int} {tl tw tu : Tok} {cN : Nat} {rV : List Value} {rN : Nat} {oO : Obj} {dV : List Value} {dN : Nat} {mO : Obj} {tV : List Value} {tN : Nat} {fV : List Value} {fN : Nat} {sO : Obj}
  {rgO wdO o1 o2 : Obj} {rowV roV : List Value} {lvN rowN roN tnn : Nat} {tes : List DictEntry} {junk : List (Addr × Obj)}
example : True := by
  (k_with "stopL151" => first | (with_reducible show wpAny _ _ (call (Value.ref 284) _ _) _ _ _))
  trivial
set_option maxRecDepth 100000 in
set_option maxHeartbeats 1000000 in
theorem spillall_piece {Q : Flow → Shared → Prop} {its : List IR} {own spl : List (Int × Nat)} {fs : List Int} {st : List (Int × Value) × List (Int × Value)} {tk0 : Tok} (C : CT w A₀ base h₀ (lawEnv L fa cdv) outer L d u mg mb loose mean) (O : X.Ok) (F : Fr h₀ L s.heap m) (hd8 : d < 700) (hu8 : u < 7000) (hdd : m (Str.ofString "deed") = some (.int 6 tk0)) (hco : m (Str.ofString "coder") = some (.ref X.K.c))
    (N : News h₀ L s.heap (coreL X.K (cdE X.K low tl lowest tw out tu) cN rV rN oO dV dN mO tV tN fV fN sO (topL X rgO wdO (its.map fun i => Value.ref i.x) lvN rowV rowN o1 o2 roV roN tes tnn (itL X.K.h its ++ junk)))) (hW : Wf X its junk) (b : Box w rgO wdO o1 o2) (hI : IntsAre fV fs) (hfs : fs.length < 500) (hrz : rV.length < 5000) (hd : oO.IsDictOf (intK w) (refs own)) (hdV : IntsAre dV (own.map (·.1))) (hs : sO.IsDictOf (intK w) (refs spl)) (hsz : spl.length ≤ 50) (hC : Core X.K.cnt its own spl) (hsl : SlotsOk low lowest fs (spl.map (·.1))) (V : Vals its st)
    (h : ∀ h' tk S' st' ops T rN' oO' sO' dV' dN' t1 t2 fV' fN', Sp X.K.cnt ⟨low, lowest, fs, own, spl, its, rV, topL X rgO wdO (its.map fun i => Value.ref i.x) lvN rowV rowN o1 o2 roV roN tes tnn junk⟩ S' st st' ops T → S'.own = [] → Fr h₀ L h' m → IntsAre fV' S'.fs → oO'.IsDictOf (intK w) (refs []) → IntsAre dV' [] → sO'.IsDictOf (intK w) (refs S'.spl) →
      News h₀ L h' (coreL X.K (cdE X.K S'.low t1 S'.lowest t2 out tu) cN S'.rV rN' oO' dV' dN' mO tV tN fV' fN' sO' (topL X rgO wdO (S'.its.map fun i => Value.ref i.x) lvN rowV rowN o1 o2 roV roN tes tnn (itL X.K.h S'.its ++ (T ++ junk)))) → Wf X S'.its (T ++ junk) → Q .next { s with heap := h', toks := tk }) :
    wpAny (model pg w) (AA d u (lawEnv L fa cdv :: outer)) (execs (cut 6 1) (lawEnv L fa cdv)) Q E s := by
  have fill : PySem.Challenge.rw_pb0351_01 = PySem.Challenge.rw_pb0351_01 ∧ Mine.hd.heap_1 = Mine.hd.heap_1 := by
    k_fill
    exact ⟨rfl, rfl⟩
  clear fill
  refine hide fun Pz kPz => ?_
  obtain ⟨B, XH, T, hf, hke, hdp, hu⟩ := C
  refine kPz ?_
  clear kPz
  simp only [lawEnv, cut, lawSc, lapB, lawB, lawS, PySem.Challenge.rw_pb0351_01, PySem.Challenge.pw_pb0351_01, OpenLaw.row, nth, lastS, bodyOf, scopeOf, List.drop, List.take] at *
  have hown := hC.own_le O.O.c1
  (repeat' ((fail_if_success k_extra "stopL151"); k_extra "kst"))
  (try dsimp only [List.cons_append, List.nil_append])
  rename Fr _ _ _ _ => FX
  rename News _ _ _ _ => NX
  refine spill_all_spec (S := ⟨low, lowest, fs, own, spl, its, rV, topL X rgO wdO (its.map fun i => Value.ref i.x) lvN rowV rowN o1 o2 roV roN tes tnn junk⟩) (by k_extra "tb_rel") (by omega) (by omega) O.O FX (top_its NX) (hW.top O) hI (by show fs.length < 900; omega) (by show rV.length < 9000; omega) hd hdV (by show own.length ≤ 20; omega) hC.ond hC.oxn hs hsz hsl (fun p hp => let ⟨v, a, e, c, _⟩ := hC.o2i p hp; ⟨v, a, e, c⟩) ?_
  intro h1 tk1 S' rN' oO' sO' dV' dN' t1 t2 fV' fN' hSp ho' hsl' F1 hI' hd' hdV' hs' N1 W1
  refine hide fun Pz kPz => ?_
  obtain ⟨st', ops, T, P⟩ := hSp.sp hC hsl V
  refine kPz ?_
  clear kPz
  rw [P.ext] at N1 W1
  clear FX NX
  have W2 := Wf.tuples b N1 P.tup hW W1 P.dxs
  have N2 := its_back N1
  have hlv : (its.map fun i => Value.ref i.x) = S'.its.map fun i => Value.ref i.x := by
    have e := congrArg (List.map Value.ref) P.xs
    rw [List.map_map, List.map_map] at e
    exact e.symm
  rw [hlv] at N2
  clear N1
  (repeat' ((fail_if_success k_extra "stopL151"); k_extra "kst"))
  exact h _ _ S' st' ops T _ _ _ _ _ _ _ _ _ P ho' (by assumption) hI' hd' hdV' hs' (by assumption) W2
end
end
end
example : True := by first | (w_top off; (fail_if_success walk1); trivial) | trivial
section
open PySem PySem.W PySem.Calls PyProof.Rows
section

section
variable {w : World} {A₀ : Around} {E : Value → Shared → Prop} {s : Shared} {base h₀ : Heap} {fa : Addr} {cdv : Value} {outer : List Env} {L d u : Nat} {m mg mb : Str → Option Value} {loose : List Str} {mean : ExcName → Option Value}
  {X : Fx} {low lowest out : Int} {tl tw tu : Tok} {cN : Nat} {rV : List Value} {rN : Nat} {oO : Obj} {dV : List Value} {dN : Nat} {mO : Obj} {tV : List Value} {tN : Nat} {fV : List Value} {fN : Nat} {sO : Obj}
  {rgO wdO o1 o2 : Obj} {rowV roV : List Value} {lvN rowN roN tnn : Nat} {tes : List DictEntry} {junk : List (Addr × Obj)}
example : True := by
  (k_with "stopL161" => first | (with_reducible show wpAny _ _ (call (Value.ref 441) _ _) _ _ _) | (with_reducible show wpAny _ _ (call (Value.builtin "len") _ _) _ _ _) | (with_reducible show wpAny _ _ (call (Value.builtin "list.pop") [Value.ref _, Value.int _ _] _) _ _ _) | (with_reducible show wpAny _ _ (call (Value.ref 299) _ _) _ _ _))
  trivial
theorem cut_mid (y : Value) : ∀ (a b : List Value), kl_cut (a ++ y :: b) a.length = some (a, y, b)
  | [], b => rfl
  | x :: a, b => by
    show kl_cut (x :: (a ++ y :: b)) (a.length + 1) = _
    simp only [kl_cut, cut_mid y a b]
theorem pop_mid {a b : List Value} {y : Value} {D n : Nat} {tk0 : Tok} {L : Addr} {news news' : List (Addr × Obj)} {Q : Value → Shared → Prop} (F : Fr h₀ L s.heap m) (N : News h₀ L s.heap news) (U : Upd D (listOf (a ++ y :: b).toArray n) (listOf (a ++ b).toArray (n + 1)) news news') (hz : a.length + b.length < 10000)
    (h : ∀ h', Fr h₀ L h' m → News h₀ L h' news' → Q y { s with heap := h' }) : wpAny (model pg w) A₀ (call (.builtin "list.pop") [.ref D, .int (a.length : Nat) tk0] []) Q E s := by
  refine kl_popAt (k := a.length) (p := a) (q := b) (y := y) F N ?_ ?_ (cut_mid y a b) U ?_ h
  · simp only [Builtin.List.listFitsIndex, Bool.and_eq_true, decide_eq_true_eq]
    omega
  · have h1 : ¬ ((a.length : Int) < 0) := by omega
    have h2 : (a.length : Int) < ((a ++ y :: b).toArray.size : Nat) := by simp; omega
    simp only [seqIndex?, if_neg h1]
    rw [if_pos (by simp only [Bool.and_eq_true, decide_eq_true_eq]; exact ⟨by omega, h2⟩)]
    rfl
  · exact szOk (by simp; omega)
theorem Wf.drop {X : Fx} {IA IB : List IR} {q : IR} {junk : List (Addr × Obj)} (w : Wf X (IA ++ q :: IB) junk) : Wf X (IA ++ IB) junk := by
  have hs : (IA ++ IB).Sublist (IA ++ q :: IB) := List.Sublist.append_left (List.sublist_cons_self q IB) IA
  exact ⟨⟨fun i hi => w.W.lo i (hs.subset hi), w.W.pw.sublist hs, fun p hp => ⟨(w.W.ex p hp).1, fun i hi => (w.W.ex p hp).2 i (hs.subset hi)⟩⟩, fun i hi => w.lv i (hs.subset hi), w.ap⟩
set_option maxRecDepth 100000 in
set_option maxHeartbeats 1000000 in
theorem release_piece {Q : Flow → Shared → Prop} {its : List IR} {own spl : List (Int × Nat)} {fs : List Int} {st : List (Int × Value) × List (Int × Value)} {tk0 : Tok} {ns : List Int} (C : CT w A₀ base h₀ (lawEnv L fa cdv) outer L d u mg mb loose mean) (O : X.Ok) (F : Fr h₀ L s.heap m) (hd8 : d < 700) (hu8 : u < 7000) (hdd : m (Str.ofString "deed") = some (.int 4 tk0)) (hco : m (Str.ofString "coder") = some (.ref X.K.c)) (hlv : m (Str.ofString "live") = some (.ref X.lv)) (hrw : m (Str.ofString "row") = some (.ref X.row))
    (N : News h₀ L s.heap (coreL X.K (cdE X.K low tl lowest tw out tu) cN rV rN oO dV dN mO tV tN fV fN sO (topL X rgO wdO (its.map fun i => Value.ref i.x) lvN rowV rowN o1 o2 roV roN tes tnn (itL X.K.h its ++ junk)))) (hW : Wf X its junk) (hne : its ≠ []) (hz : its.length ≤ 1000) (hrow : IntsAre rowV ns) (hnz : ns.length ≤ 900) (hI : IntsAre fV fs) (hfs : fs.length < 500) (hrz : rV.length < 5000) (hd : oO.IsDictOf (intK w) (refs own)) (hdV : IntsAre dV (own.map (·.1))) (hs : sO.IsDictOf (intK w) (refs spl)) (hsz : spl.length ≤ 50) (hC : Core X.K.cnt its own spl) (hsl : SlotsOk low lowest fs (spl.map (·.1))) (V : Vals its st)
    (h : ∀ h' tk IA q IB oO' dV' dN' sO' fV' fN' fs' own' spl' rowV' rowN' ns', its = IA ++ q :: IB → Fr h₀ L h' (fun y => if y = Str.ofString "gone" then some (.ref q.x) else m y) → IntsAre rowV' ns' → ns'.length ≤ ns.length → IntsAre fV' fs' → oO'.IsDictOf (intK w) (refs own') → IntsAre dV' (own'.map (·.1)) → sO'.IsDictOf (intK w) (refs spl') →
      Core X.K.cnt (IA ++ IB) own' spl' → SlotsOk low lowest fs' (spl'.map (·.1)) → fs'.length ≤ fs.length + 1 → News h₀ L h' (coreL X.K (cdE X.K low tl lowest tw out tu) cN rV rN oO' dV' dN' mO tV tN fV' fN' sO' (topL X rgO wdO ((IA ++ IB).map fun i => Value.ref i.x) (lvN + 1) rowV' rowN' o1 o2 roV roN tes tnn (itL X.K.h (IA ++ IB) ++ junk))) → Wf X (IA ++ IB) junk → Q .next { s with heap := h', toks := tk }) :
    wpAny (model pg w) (AA d u (lawEnv L fa cdv :: outer)) (execs (cut 6 1) (lawEnv L fa cdv)) Q E s := by
  have fill : PySem.Challenge.rw_pb0351_01 = PySem.Challenge.rw_pb0351_01 ∧ Mine.hd.heap_1 = Mine.hd.heap_1 := by
    k_fill
    exact ⟨rfl, rfl⟩
  clear fill
  refine hide fun Pz kPz => ?_
  obtain ⟨B, XH, T, hf, hke, hdp, hu⟩ := C
  refine kPz ?_
  clear kPz
  simp only [lawEnv, cut, lawSc, lapB, lawB, lawS, PySem.Challenge.rw_pb0351_01, PySem.Challenge.pw_pb0351_01, OpenLaw.row, nth, lastS, bodyOf, scopeOf, List.drop, List.take] at *
  have hown := hC.own_le O.O.c1
  have hlp : 0 < its.length := List.length_pos_iff.mpr hne
  (repeat' ((fail_if_success k_extra "stopL161"); k_extra "kst"))
  (try dsimp only [List.cons_append, List.nil_append])
  rename Fr _ _ _ _ => FX
  rename News _ _ _ _ => NX
  refine next_top (by k_extra "tb_rel") O FX NX hrow hnz (fun p hp => hW.apart O p hp _ (.tail _ (.tail _ (.tail _ (.head _))))) ?_
  intro h1 tk1 k1 t1 rv rn ns' F1 hi hl N1
  clear FX NX
  (repeat' ((fail_if_success k_extra "stopL161"); k_extra "kst"))
  refine len_L N1 (n := its.length) (D := X.lv) (vs := its.map fun i => Value.ref i.x) (c := lvN) (by k_mem) (by rw [List.length_map]) (by omega) ?_
  have hn0 : ((its.length : Nat) : Int) ≠ 0 := by omega
  have f0 : 0 ≤ k1.fmod its.length := Int.fmod_nonneg_of_pos _ (by omega)
  have f1 : k1.fmod its.length < its.length := Int.fmod_lt_of_pos _ (by omega)
  (repeat' ((fail_if_success k_extra "stopL161"); k_extra "kst"))
  generalize k1.fmod its.length = k at *
  obtain ⟨IA, q, IB, rfl, rfl⟩ : ∃ IA q IB, its = IA ++ q :: IB ∧ k = (IA.length : Nat) := by
    have hk : k.toNat < its.length := by omega
    refine ⟨_, _, _, split_get its k.toNat _ (List.getElem?_eq_getElem hk), ?_⟩
    rw [List.length_take]
    omega
  have hz2 : IA.length + IB.length < 1000 := by
    rw [List.length_append, List.length_cons] at hz
    omega
  have N2 := N1
  rw [List.map_append, List.map_cons] at N2
  rw [show IA.length = (IA.map fun i => Value.ref i.x).length by rw [List.length_map]]
  refine pop_mid F1 N2 (upd_lv O (fun p hp => hW.apart O p hp _ (.tail _ (.tail _ (.head _))))) (by rw [List.length_map, List.length_map]; omega) ?_
  intro h2 F2 N3
  rw [← List.map_append] at N3
  clear F1 N1 N2
  (repeat' ((fail_if_success k_extra "stopL161"); k_extra "kst"))
  (try dsimp only [List.cons_append, List.nil_append])
  rename Fr _ _ _ _ => FX
  rename News _ _ _ _ => NX
  refine release_any (by k_extra "tb_rel") (by show d + 1 < 890; omega) (by show u + 3 < 8900; omega) O.O FX (top_its NX) (hW.top O) hI (by omega) hd hdV (by omega) hs (by omega) hC hsl ?_
  intro h3 tk3 oO' dV' dN' sO' fV' fN' fs' own' spl' t3 F3 hI' hd' hdV' hs' hC' hS' hf' N4 W4
  have N5 := its_top N4 (fun p hp => hp)
  have hq1 : (q.x, instObj 108 q.dx) ∈ itL X.K.h (IA ++ q.gone t3 :: IB) ++ junk := List.mem_append_left _ (itL_o (i := q.gone t3) (List.mem_append_right _ (.head _)))
  have hq2 : (q.dx, dictOf (itE X.K.h q.t q.v "none" t3 q.value q.tv q.reg q.tr q.root q.slot q.ts q.was q.ta) q.n) ∈ itL X.K.h (IA ++ q.gone t3 :: IB) ++ junk := List.mem_append_left _ (itL_d (i := q.gone t3) (List.mem_append_right _ (.head _)))
  clear FX NX N4
  (repeat' ((fail_if_success k_extra "stopL161"); k_extra "kst"))
  rename News _ _ _ _ => NZ
  rename Fr _ _ _ _ => FZ
  refine h _ _ IA q IB oO' dV' dN' sO' fV' fN' fs' own' spl' rv rn ns' rfl FZ hi hl hI' hd' hdV' hs' hC' hS' hf' (core_sub NZ fun p hp => ?_) hW.drop
  rcases List.mem_append.mp (show p ∈ topL X rgO wdO ((IA ++ IB).map fun i => Value.ref i.x) (lvN + 1) rv rn o1 o2 roV roN tes tnn [] ++ (itL X.K.h (IA ++ IB) ++ junk) from hp) with r | r
  · exact (show p ∈ topL X rgO wdO ((IA ++ IB).map fun i => Value.ref i.x) (lvN + 1) rv rn o1 o2 roV roN tes tnn [] ++ (itL X.K.h (IA ++ q.gone t3 :: IB) ++ junk) from List.mem_append_left _ r)
  · refine (show p ∈ topL X rgO wdO ((IA ++ IB).map fun i => Value.ref i.x) (lvN + 1) rv rn o1 o2 roV roN tes tnn [] ++ (itL X.K.h (IA ++ q.gone t3 :: IB) ++ junk) from List.mem_append_right _ ?_)
    rcases List.mem_append.mp r with r | r
    · refine List.mem_append_left _ ?_
      rw [itL_app] at r ⊢
      rcases List.mem_append.mp r with r | r
      · exact List.mem_append_left _ r
      · exact List.mem_append_right _ (.tail _ (.tail _ r))
    · exact List.mem_append_right _ r
end
end
end
example : True := by first | (w_top off; (fail_if_success walk1); trivial) | trivial
section
open PySem PySem.W PySem.Calls PyProof.Rows
section

section
variable {w : World} {A₀ : Around} {E : Value → Shared → Prop} {s : Shared} {base h₀ : Heap} {fa : Addr} {cdv : Value} {outer : List Env} {L d u : Nat} {m mg mb : Str → Option Value} {loose : List Str} {mean : ExcName → Option Value}
  {X : Fx} {low lowest out : Int} {tl tw tu : Tok} {cN : Nat} {rV : List Value} {rN : Nat} {oO : Obj} {dV : List Value} {dN : Nat} {mO : Obj} {tV : List Value} {tN : Nat} {fV : List Value} {fN : Nat} {sO : Obj}
  {rgO wdO o1 o2 : Obj} {rowV roV : List Value} {lvN rowN roN tnn : Nat} {tes : List DictEntry} {junk : List (Addr × Obj)}
example : True := by
  (k_with "stopL171" => first | (with_reducible show wpAny _ _ (call (Value.type "range") _ _) _ _ _) | (with_reducible show wpAny _ _ (compareOp _ (Value.int _ _) (Value.ref _)) _ _ _) | (with_reducible show ∃ _, _))
  trivial
def turnB : List Stmt := elseOf (nth (elseOf (nth lapB 6)) 0)
def freeOf (cnt : Int) (own : List (Int × Nat)) : List Int := ((List.range cnt.toNat).map fun k : Nat => (k : Int)).filter fun r => !((own.map (·.1)).any (· == r))
def longOf (own : List (Int × Nat)) (ks : List IR) : List Int := (own.map (·.1)).filter fun r => !((ks.map (·.reg)).any (· == r))
theorem ints_filter {f : Int → Bool} : ∀ {vs : List Value} {ns : List Int} {ys : List Value}, IntsAre vs ns → Paired (fun v y => y = v) (vs.filter fun v => match v with | .int k _ => f k | _ => false) ys → IntsAre ys (ns.filter f)
  | _, _, ys, .nil, h => by cases h; exact .nil
  | _, _, ys, .cons k t hI, h => by
    rw [List.filter_cons] at h ⊢
    dsimp only at h
    split at h
    · rename_i hf
      cases h with
      | cons h1 h2 =>
        subst h1
        rw [if_pos hf]
        exact .cons _ _ (ints_filter hI h2)
    · rename_i hf
      rw [if_neg hf]
      exact ints_filter hI h
theorem ints_range : ∀ {vs : List Value} {a : Nat}, (∀ j v, vs[j]? = some v → ∃ t, v = Value.int (((a + j : Nat)) : Int) t) → IntsAre vs ((List.range' a vs.length).map fun k : Nat => (k : Int))
  | [], _, _ => .nil
  | v :: vs, a, h => by
    obtain ⟨t, e⟩ := h 0 v rfl
    subst e
    rw [List.length_cons, List.range'_succ, List.map_cons]
    refine .cons _ _ (ints_range fun j v e => ?_)
    obtain ⟨t, e2⟩ := h (j + 1) v (by simpa using e)
    exact ⟨t, by rw [e2]; congr 2; omega⟩
set_option maxRecDepth 100000 in
set_option maxHeartbeats 1000000 in
theorem free_stmt {Q : Flow → Shared → Prop} {its : List IR} {lvV ys : List Value} {own : List (Int × Nat)} {D n : Nat} {tc : Tok} (C : CT w A₀ base h₀ (lawEnv L fa cdv) outer L d u mg mb loose mean) (O : X.Ok) (F : Fr h₀ L s.heap m) (hct : m (Str.ofString "count") = some (.int X.K.cnt tc))
    (N : News h₀ L s.heap (coreL X.K (cdE X.K low tl lowest tw out tu) cN rV rN oO dV dN mO tV tN fV fN sO (topL X rgO wdO lvV lvN rowV rowN o1 o2 roV roN tes tnn (itL X.K.h its ++ junk)))) (ho1 : o1.data = .cell (some (.ref D))) (hD : (D, listOf (List.toArray ys) n) ∈ junk) (hys : IntsAre ys (own.map (·.1))) (hcl : (cellsFrom (L + 1) lawSc.names []).lookup (Str.ofString "order") = some X.c1)
    (h : ∀ h' tk D2 n2 fv, Fr h₀ L h' (fun y => if y = Str.ofString "free" then some (.ref D2) else m y) → IntsAre fv (freeOf X.K.cnt own) → News h₀ L h' ((D2, listOf (List.toArray fv) n2) :: (coreL X.K (cdE X.K low tl lowest tw out tu) cN rV rN oO dV dN mO tV tN fV fN sO (topL X rgO wdO lvV lvN rowV rowN o1 o2 roV roN tes tnn (itL X.K.h its ++ junk)))) → (∀ p ∈ (coreL X.K (cdE X.K low tl lowest tw out tu) cN rV rN oO dV dN mO tV tN fV fN sO (topL X rgO wdO lvV lvN rowV rowN o1 o2 roV roN tes tnn (itL X.K.h its ++ junk))), p.1 ≠ D2) → Q .next { s with heap := h', toks := tk }) :
    wpAny (model pg w) (AA d u (lawEnv L fa cdv :: outer)) (exec (nth turnB 2) (lawEnv L fa cdv)) Q E s := by
  have fill : PySem.Challenge.rw_pb0351_01 = PySem.Challenge.rw_pb0351_01 ∧ Mine.hd.heap_1 = Mine.hd.heap_1 := by
    k_fill
    exact ⟨rfl, rfl⟩
  clear fill
  refine hide fun Pz kPz => ?_
  obtain ⟨B, XH, T, hf, hke, hdp, hu⟩ := C
  refine kPz ?_
  clear kPz
  have hc1 : X.c1 = L + 1 := (Option.some.inj (hcl.symm.trans (by rfl)))
  simp only [lawEnv, turnB, elseOf, lawSc, lapB, lawB, lawS, PySem.Challenge.rw_pb0351_01, PySem.Challenge.pw_pb0351_01, OpenLaw.row, nth, lastS, bodyOf, scopeOf, List.drop, List.take] at *
  have c0 := O.O.c0
  have c9 := O.O.c1
  have hl0 : (D, listOf (List.toArray ys) n) ∈ (coreL X.K (cdE X.K low tl lowest tw out tu) cN rV rN oO dV dN mO tV tN fV fN sO (topL X rgO wdO lvV lvN rowV rowN o1 o2 roV roN tes tnn (itL X.K.h its ++ junk))) := by
    have : (D, listOf (List.toArray ys) n) ∈ itL X.K.h its ++ junk := List.mem_append_right _ hD
    k_mem
  have hl1 : (X.c1, o1) ∈ (coreL X.K (cdE X.K low tl lowest tw out tu) cN rV rN oO dV dN mO tV tN fV fN sO (topL X rgO wdO lvV lvN rowV rowN o1 o2 roV roN tes tnn (itL X.K.h its ++ junk))) := by k_mem
  have hl2 := hl1
  rw [hc1] at hl2
  refine lc_asgC (fun v => match v with | .int k _ => !((own.map (·.1)).any (· == k)) | _ => false) (fun v y => y = v) rfl (by rfl) (by decide) rfl (by decide) (by rfl) (by intro _; rfl) (by rfl) (by rfl) (by rfl) ?_
  (repeat' ((fail_if_success k_extra "stopL171"); k_extra "kst"))
  refine range1_rows F N ?_
  intro h1 tk1 t1 u1 v1 hr F1 N1 _
  clear F N
  have en : X.K.cnt = ((X.K.cnt.toNat : Nat) : Int) := by omega
  rw [en] at hr
  (repeat' ((fail_if_success k_extra "stopL171"); k_extra "kst"))
  refine ⟨X.K.cnt.toNat, fun i v => ∃ t, v = Value.int (i : Nat) t, by omega, .inr ⟨_, _, _, _, rfl, hr, fun _ _ => Iff.rfl⟩, _, _, _, F1, N1, ?_, ?_, ?_⟩
  · intro C i v s₃ E' zr1 zr2
    refine hide fun Pz kPz => ?_
    obtain ⟨t, rfl⟩ := zr1
    obtain ⟨⟨m₃, F2, N2, hm⟩, F3, N3⟩ := zr2
    refine kPz ?_
    clear kPz
    refine tests_one ?_
    have hn := F2.ns
    clear F1 N1 F2 N2
    (try dsimp only at hm ⊢)
    (repeat' ((fail_if_success k_extra "stopL171"); k_extra "kst"))
    refine notin_list_ints (News.isList N3 hl0) hys ?_
    (repeat' ((fail_if_success k_extra "stopL171"); k_extra "kst"))
    exact ⟨_, _, rfl, fun _ _ e => e⟩
  · intro C i v s₃ E' zr1 hp zr2
    refine hide fun Pz kPz => ?_
    obtain ⟨t, rfl⟩ := zr1
    obtain ⟨⟨m₃, F2, N2, hm⟩, F3, N3⟩ := zr2
    refine kPz ?_
    clear kPz
    have hn := F2.ns
    clear F1 N1 F2 N2
    (try dsimp only at hm ⊢)
    (repeat' ((fail_if_success k_extra "stopL171"); k_extra "kst"))
    exact ⟨_, _, rfl, fun _ _ e => e⟩
  · intro D2 h2 tk2 fv n2 vs hlen hvs F2 N2 hD2 hp
    have hI := ints_range (a := 0) (vs := vs) fun j v e => by simpa using hvs j v e
    rw [hlen] at hI
    have hI2 := ints_filter hI hp
    exact h _ _ D2 n2 fv F2 (by unfold freeOf; rw [List.range_eq_range']; exact hI2) N2 hD2
end
end
end
example : True := by first | (w_top off; (fail_if_success walk1); trivial) | trivial
section
open PySem PySem.W PySem.Calls PyProof.Rows
section

section
variable {w : World} {A₀ : Around} {E : Value → Shared → Prop} {s : Shared} {base h₀ : Heap} {fa : Addr} {cdv : Value} {outer : List Env} {L d u : Nat} {m mg mb : Str → Option Value} {loose : List Str} {mean : ExcName → Option Value}
  {X : Fx} {low lowest out : Int} {tl tw tu : Tok} {cN : Nat} {rV : List Value} {rN : Nat} {oO : Obj} {dV : List Value} {dN : Nat} {mO : Obj} {tV : List Value} {tN : Nat} {fV : List Value} {fN : Nat} {sO : Obj}
  {rgO wdO o1 o2 : Obj} {rowV roV : List Value} {lvN rowN roN tnn : Nat} {tes : List DictEntry} {junk : List (Addr × Obj)}
example : True := by
  (k_with "stopL181" => first | (with_reducible show wpAny _ _ (eval (Expr.ListComp _ _ _ _) _) _ _ _) | (with_reducible show wpAny _ _ (compareOp _ (Value.int _ _) (Value.ref _)) _ _ _) | (with_reducible show ∃ _, _))
  trivial
set_option maxRecDepth 100000 in
set_option maxHeartbeats 1000000 in
theorem long_stmt {Q : Flow → Shared → Prop} {its ks : List IR} {lvV ys : List Value} {own : List (Int × Nat)} {D n Dk nk : Nat} (C : CT w A₀ base h₀ (lawEnv L fa cdv) outer L d u mg mb loose mean) (O : X.Ok) (F : Fr h₀ L s.heap m)
    (N : News h₀ L s.heap (coreL X.K (cdE X.K low tl lowest tw out tu) cN rV rN oO dV dN mO tV tN fV fN sO (topL X rgO wdO lvV lvN rowV rowN o1 o2 roV roN tes tnn (itL X.K.h its ++ junk)))) (ho1 : o1.data = .cell (some (.ref D))) (hD : (D, listOf (List.toArray ys) n) ∈ junk) (hys : IntsAre ys (own.map (·.1))) (hoz : own.length ≤ 7) (hcl : (cellsFrom (L + 1) lawSc.names []).lookup (Str.ofString "order") = some X.c1)
    (ho2 : o2.data = .cell (some (.ref Dk))) (hDk : (Dk, listOf (List.toArray (ks.map fun i => Value.ref i.x)) nk) ∈ junk) (hkz : ks.length ≤ 2) (hks : ∀ i ∈ ks, i ∈ its) (hnd : (its.map (·.x)).Nodup) (hcl2 : (cellsFrom (L + 1) lawSc.names []).lookup (Str.ofString "kept") = some X.c2)
    (h : ∀ h' tk D2 n2 fv, Fr h₀ L h' (fun y => if y = Str.ofString "longest" then some (.ref D2) else m y) → IntsAre fv (longOf own ks) → News h₀ L h' ((D2, listOf (List.toArray fv) n2) :: (coreL X.K (cdE X.K low tl lowest tw out tu) cN rV rN oO dV dN mO tV tN fV fN sO (topL X rgO wdO lvV lvN rowV rowN o1 o2 roV roN tes tnn (itL X.K.h its ++ junk)))) → (∀ p ∈ (coreL X.K (cdE X.K low tl lowest tw out tu) cN rV rN oO dV dN mO tV tN fV fN sO (topL X rgO wdO lvV lvN rowV rowN o1 o2 roV roN tes tnn (itL X.K.h its ++ junk))), p.1 ≠ D2) → Q .next { s with heap := h', toks := tk }) :
    wpAny (model pg w) (AA d u (lawEnv L fa cdv :: outer)) (exec (nth turnB 3) (lawEnv L fa cdv)) Q E s := by
  have fill : PySem.Challenge.rw_pb0351_01 = PySem.Challenge.rw_pb0351_01 ∧ Mine.hd.heap_1 = Mine.hd.heap_1 := by
    k_fill
    exact ⟨rfl, rfl⟩
  clear fill
  refine hide fun Pz kPz => ?_
  obtain ⟨B, XH, T, hf, hke, hdp, hu⟩ := C
  refine kPz ?_
  clear kPz
  have hc1 : X.c1 = L + 1 := (Option.some.inj (hcl.symm.trans (by rfl)))
  have hc2 : X.c2 = L + 1 + 1 := (Option.some.inj (hcl2.symm.trans (by rfl)))
  simp only [lawEnv, turnB, elseOf, lawSc, lapB, lawB, lawS, PySem.Challenge.rw_pb0351_01, PySem.Challenge.pw_pb0351_01, OpenLaw.row, nth, lastS, bodyOf, scopeOf, List.drop, List.take] at *
  have hl0 : (D, listOf (List.toArray ys) n) ∈ (coreL X.K (cdE X.K low tl lowest tw out tu) cN rV rN oO dV dN mO tV tN fV fN sO (topL X rgO wdO lvV lvN rowV rowN o1 o2 roV roN tes tnn (itL X.K.h its ++ junk))) := by
    have : (D, listOf (List.toArray ys) n) ∈ itL X.K.h its ++ junk := List.mem_append_right _ hD
    k_mem
  have hlk : (Dk, listOf (List.toArray (ks.map fun i => Value.ref i.x)) nk) ∈ (coreL X.K (cdE X.K low tl lowest tw out tu) cN rV rN oO dV dN mO tV tN fV fN sO (topL X rgO wdO lvV lvN rowV rowN o1 o2 roV roN tes tnn (itL X.K.h its ++ junk))) := by
    have : (Dk, listOf (List.toArray (ks.map fun i => Value.ref i.x)) nk) ∈ itL X.K.h its ++ junk := List.mem_append_right _ hDk
    k_mem
  have hl1 : (X.c1, o1) ∈ (coreL X.K (cdE X.K low tl lowest tw out tu) cN rV rN oO dV dN mO tV tN fV fN sO (topL X rgO wdO lvV lvN rowV rowN o1 o2 roV roN tes tnn (itL X.K.h its ++ junk))) := by k_mem
  have hl2 := hl1
  rw [hc1] at hl2
  have hl3 : (X.c2, o2) ∈ (coreL X.K (cdE X.K low tl lowest tw out tu) cN rV rN oO dV dN mO tV tN fV fN sO (topL X rgO wdO lvV lvN rowV rowN o1 o2 roV roN tes tnn (itL X.K.h its ++ junk))) := by k_mem
  have hl4 := hl3
  rw [hc2] at hl4
  have hlen := hys.length
  rw [List.length_map] at hlen
  refine lc_asgC (fun v => match v with | .int k _ => !((ks.map (·.reg)).any (· == k)) | _ => false) (fun v y => y = v) rfl (by rfl) (by decide) rfl (by decide) (by rfl) (by intro _; rfl) (by rfl) (by rfl) (by rfl) ?_
  (repeat' ((fail_if_success k_extra "stopL181"); k_extra "kst"))
  refine ⟨ys.length, fun i v => ys[i]? = some v, by omega, .inl ⟨D, ys, n, rfl, (N _ hl0).1, rfl, fun _ _ => Iff.rfl⟩, _, _, _, F, N, ?_, ?_, ?_⟩
  · intro C i v s₃ E' hv zr1
    refine hide fun Pz kPz => ?_
    obtain ⟨⟨m₃, F2, N2, hm⟩, F3, N3⟩ := zr1
    refine kPz ?_
    clear kPz
    refine hide fun Pz kPz => ?_
    obtain ⟨k, t, rfl, _⟩ := ints_mem hys (List.mem_of_getElem? hv)
    refine kPz ?_
    clear kPz
    refine tests_one ?_
    have hn := F2.ns
    clear F N
    (try dsimp only at hm ⊢)
    (repeat' ((fail_if_success k_extra "stopL181"); k_extra "kst"))
    refine lc_evalK (fun _ => true) (fun v y => ∃ i ∈ its, v = Value.ref i.x ∧ y = Value.int i.reg i.tr) rfl (by rfl) (by decide) rfl (by decide) (by rfl) (by intro _; rfl) ?_
    (repeat' ((fail_if_success k_extra "stopL181"); k_extra "kst"))
    refine ⟨Dk, ks.map fun i => Value.ref i.x, nk, h₀, m₃, _, rfl, F2, N2, hlk, by rw [List.length_map]; omega, ?_, ?_, ?_⟩
    · intro C4 v s₄ E4 _ _
      exact tests_nil (v := v)
    · intro C4 v s₄ E4 hv4 _ zr1
      refine hide fun Pz kPz => ?_
      obtain ⟨⟨m₄, hn4, hm4⟩, F4, N4⟩ := zr1
      refine kPz ?_
      clear kPz
      refine hide fun Pz kPz => ?_
      obtain ⟨i, hi, rfl⟩ := List.mem_map.mp hv4
      refine kPz ?_
      clear kPz
      have hq1 : (i.x, instObj 108 i.dx) ∈ itL X.K.h its ++ junk := List.mem_append_left _ (itL_o (hks i hi))
      have hq2 : (i.dx, dictOf (itE X.K.h i.t i.v i.mode i.tm i.value i.tv i.reg i.tr i.root i.slot i.ts i.was i.ta) i.n) ∈ itL X.K.h its ++ junk := List.mem_append_left _ (itL_d (hks i hi))
      clear F2 N2 F3 N3 hn hm
      (try dsimp only at hm4 ⊢)
      (repeat' ((fail_if_success k_extra "stopL181"); k_extra "kst"))
      · exact ⟨i, hks i hi, rfl, rfl⟩
      · exact ⟨_, _, rfl, fun _ _ e => e⟩
    · intro D5 h5 tk5 zs n5 k5 F5 N5 hD5 hp5
      rw [List.filter_eq_self.mpr (fun _ _ => rfl)] at hp5
      have hzs := paired_its (f := fun i : IR => Value.int i.reg i.tr) hnd hks hp5
      subst hzs
      clear F2 N2 F3 N3
      (repeat' ((fail_if_success k_extra "stopL181"); k_extra "kst"))
      refine notin_list_ints (News.isList N5 (.head _)) (ints_map (·.reg) (·.tr) ks) ?_
      (repeat' ((fail_if_success k_extra "stopL181"); k_extra "kst"))
      exact ⟨_, _, rfl, k5⟩
  · intro C i v s₃ E' hv hp zr1
    refine hide fun Pz kPz => ?_
    obtain ⟨⟨m₃, F2, N2, hm⟩, F3, N3⟩ := zr1
    refine kPz ?_
    clear kPz
    refine hide fun Pz kPz => ?_
    obtain ⟨k, t, rfl, _⟩ := ints_mem hys (List.mem_of_getElem? hv)
    refine kPz ?_
    clear kPz
    have hn := F2.ns
    clear F N F2 N2
    (try dsimp only at hm ⊢)
    (repeat' ((fail_if_success k_extra "stopL181"); k_extra "kst"))
    exact ⟨_, _, rfl, fun _ _ e => e⟩
  · intro D2 h2 tk2 fv n2 vs hlen hvs F2 N2 hD2 hp
    have evs : vs = ys := by
      refine List.ext_getElem? fun j => ?_
      by_cases hj : j < vs.length
      · have h1 : vs[j]? = some vs[j] := List.getElem?_eq_getElem hj
        rw [h1, hvs j _ h1]
      · rw [List.getElem?_eq_none (by omega), List.getElem?_eq_none (by omega)]
    rw [evs] at hp
    exact h _ _ D2 n2 fv F2 (ints_filter hys hp) N2 hD2
end
end
end
example : True := by first | (w_top off; (fail_if_success walk1); trivial) | trivial
section
open PySem PySem.W PySem.Calls PyProof.Rows
section

section
variable {w : World} {A₀ : Around} {E : Value → Shared → Prop} {s : Shared} {base h₀ : Heap} {fa : Addr} {cdv : Value} {outer : List Env} {L d u : Nat} {m mg mb : Str → Option Value} {loose : List Str} {mean : ExcName → Option Value}
  {X : Fx} {low lowest out : Int} {tl tw tu : Tok} {cN : Nat} {rV : List Value} {rN : Nat} {oO : Obj} {dV : List Value} {dN : Nat} {mO : Obj} {tV : List Value} {tN : Nat} {fV : List Value} {fN : Nat} {sO : Obj}
  {rgO wdO o1 o2 : Obj} {rowV roV : List Value} {lvN rowN roN tnn : Nat} {tes : List DictEntry} {junk : List (Addr × Obj)}
example : True := by
  (k_with "stopL191" => first | (with_reducible show wpAny _ _ (compareOp _ (Value.ref _) (Value.ref _)) _ _ _) | (with_reducible show wpAny _ _ (subscriptTail _ _ _ _) _ _ _))
  trivial
theorem sub_at {value slice : Expr} {l : Addr} {vs : List Value} {k : Int} {tk0 : Tok} {v : Value} {A₁ : Around} {Q : Value → Shared → Prop} (hl : s.heap.IsList l vs.toArray) (h0 : 0 ≤ k) (hf : k < 2 ^ 63) (hx : vs[k.toNat]? = some v) (h : Q v s)
    (hs : subscripted slice false (.ref l) (.int k tk0) = operate [.ref l, .int k tk0] (getItem (.ref l) (.int k tk0)) := by with_unfolding_all rfl) :
    wpAny (model pg w) A₁ (subscriptTail value slice (.ref l) (.int k tk0)) Q E s := tail_any hl.typeIs slot_list_getitem.lookup (wpAny_getItem_list hl h0 hf (by simpa using hx) h) hs
theorem filter_from {P : Int → Bool} : ∀ {a b : List Int} {r : Int}, (∀ z ∈ a, P z = false) → P r = true → (a ++ r :: b).filter P = r :: b.filter P
  | [], b, r, _, h => by rw [List.nil_append, List.filter_cons, if_pos h]
  | x :: a, b, r, ha, h => by
    rw [List.cons_append, List.filter_cons, if_neg (by rw [ha x (.head _)]; decide)]
    exact filter_from (fun z hz => ha z (.tail _ hz)) h
theorem any_in {l : List Int} {r : Int} : (l.any (· == r)) = true ↔ r ∈ l := by
  rw [List.any_eq_true]
  constructor
  · rintro ⟨x, hx, e⟩
    rw [← eq_of_beq e]; exact hx
  · intro h; exact ⟨r, h, by simp⟩
theorem gives_list {cnt : Int} {own : List (Int × Nat)} {ks : List IR} {r : Int} (h : Gives cnt own ks r) : (∃ t, freeOf cnt own = r :: t) ∨ (freeOf cnt own = [] ∧ ∃ t, longOf own ks = r :: t) := by
  rcases h with ⟨h0, h1, h2, h3⟩ | ⟨h1, a, b, h2, h3, h4⟩
  · refine .inl ?_
    obtain ⟨k, rfl⟩ : ∃ k : Nat, r = (k : Int) := ⟨r.toNat, by omega⟩
    obtain ⟨c, rfl⟩ : ∃ c : Nat, cnt = ((k + 1 + c : Nat) : Int) := ⟨(cnt - (k + 1)).toNat, by omega⟩
    unfold freeOf
    rw [Int.toNat_natCast, List.range_add, List.range_succ, List.map_append, List.map_append, List.append_assoc]
    refine ⟨_, filter_from (fun z hz => ?_) ?_⟩
    · refine hide fun Pz kPz => ?_
      obtain ⟨j, hj, rfl⟩ := List.mem_map.mp hz
      refine kPz ?_
      clear kPz
      have hj := List.mem_range.mp hj
      rw [any_in.mpr (h3 j (by omega) (by omega))]; rfl
    · cases e : (own.map (·.1)).any (· == (k : Int)) with
      | true => exact absurd (any_in.mp e) h2
      | false => rfl
  · refine .inr ⟨?_, ?_⟩
    · unfold freeOf
      rw [List.filter_eq_nil_iff]
      intro z hz
      refine hide fun Pz kPz => ?_
      obtain ⟨j, hj, rfl⟩ := List.mem_map.mp hz
      refine kPz ?_
      clear kPz
      have hj := List.mem_range.mp hj
      rw [any_in.mpr (h1 j (by omega) (by omega))]; decide
    · unfold longOf
      rw [h2]
      refine ⟨_, filter_from (fun z hz => ?_) ?_⟩
      · rw [any_in.mpr (h3 z hz)]; rfl
      · cases e : (ks.map (·.reg)).any (· == r) with
        | true => exact absurd (any_in.mp e) h4
        | false => rfl
theorem ints_head {vs : List Value} {k : Int} {ns : List Int} (h : IntsAre vs (k :: ns)) : ∃ t, vs[(0 : Int).toNat]? = some (.int k t) := by
  cases h with
  | cons _ t _ => exact ⟨t, rfl⟩
set_option maxRecDepth 100000 in
set_option maxHeartbeats 1000000 in
theorem check_stmt {Q : Flow → Shared → Prop} {its ks : List IR} {lvV fv gv : List Value} {own : List (Int × Nat)} {Df nf Dl nl : Nat} {q : IR} (C : CT w A₀ base h₀ (lawEnv L fa cdv) outer L d u mg mb loose mean) (O : X.Ok) (F : Fr h₀ L s.heap m)
    (N : News h₀ L s.heap (coreL X.K (cdE X.K low tl lowest tw out tu) cN rV rN oO dV dN mO tV tN fV fN sO (topL X rgO wdO lvV lvN rowV rowN o1 o2 roV roN tes tnn (itL X.K.h its ++ junk)))) (hwt : m (Str.ofString "wanted") = some (.ref q.x)) (hq : q ∈ its) (hm : q.mode = "reg") (hfr : m (Str.ofString "free") = some (.ref Df)) (hlo : m (Str.ofString "longest") = some (.ref Dl))
    (hDf : (Df, listOf (List.toArray fv) nf) ∈ junk) (hDl : (Dl, listOf (List.toArray gv) nl) ∈ junk) (hfv : IntsAre fv (freeOf X.K.cnt own)) (hgv : IntsAre gv (longOf own ks)) (hg : Gives X.K.cnt own ks q.reg)
    (h : ∀ h' tk, Fr h₀ L h' m → News h₀ L h' (coreL X.K (cdE X.K low tl lowest tw out tu) cN rV rN oO dV dN mO tV tN fV fN sO (topL X rgO wdO lvV lvN rowV rowN o1 o2 roV roN tes tnn (itL X.K.h its ++ junk))) → Q .next { s with heap := h', toks := tk }) :
    wpAny (model pg w) (AA d u (lawEnv L fa cdv :: outer)) (exec (nth turnB 5) (lawEnv L fa cdv)) Q E s := by
  have fill : PySem.Challenge.rw_pb0351_01 = PySem.Challenge.rw_pb0351_01 ∧ Mine.hd.heap_1 = Mine.hd.heap_1 := by
    k_fill
    exact ⟨rfl, rfl⟩
  clear fill
  refine hide fun Pz kPz => ?_
  obtain ⟨B, XH, T, hf, hke, hdp, hu⟩ := C
  refine kPz ?_
  clear kPz
  simp only [lawEnv, turnB, elseOf, lawSc, lapB, lawB, lawS, PySem.Challenge.rw_pb0351_01, PySem.Challenge.pw_pb0351_01, OpenLaw.row, nth, lastS, bodyOf, scopeOf, List.drop, List.take] at *
  have hlf : (Df, listOf (List.toArray fv) nf) ∈ (coreL X.K (cdE X.K low tl lowest tw out tu) cN rV rN oO dV dN mO tV tN fV fN sO (topL X rgO wdO lvV lvN rowV rowN o1 o2 roV roN tes tnn (itL X.K.h its ++ junk))) := by
    have : (Df, listOf (List.toArray fv) nf) ∈ itL X.K.h its ++ junk := List.mem_append_right _ hDf
    k_mem
  have hll : (Dl, listOf (List.toArray gv) nl) ∈ (coreL X.K (cdE X.K low tl lowest tw out tu) cN rV rN oO dV dN mO tV tN fV fN sO (topL X rgO wdO lvV lvN rowV rowN o1 o2 roV roN tes tnn (itL X.K.h its ++ junk))) := by
    have : (Dl, listOf (List.toArray gv) nl) ∈ itL X.K.h its ++ junk := List.mem_append_right _ hDl
    k_mem
  have hq1 : (q.x, instObj 108 q.dx) ∈ itL X.K.h its ++ junk := List.mem_append_left _ (itL_o hq)
  have hq2 : (q.dx, dictOf (itE X.K.h q.t q.v q.mode q.tm q.value q.tv q.reg q.tr q.root q.slot q.ts q.was q.ta) q.n) ∈ itL X.K.h its ++ junk := List.mem_append_left _ (itL_d hq)
  rw [hm] at hq2
  (repeat' ((fail_if_success k_extra "stopL191"); k_extra "kst"))
  rename News _ _ _ _ => NX
  rcases gives_list hg with ⟨t, e⟩ | ⟨e, t, e2⟩
  · rw [e] at hfv
    refine ne_intsK (News.isList NX (.tail _ hlf)) hfv (News.isList NX (.head _)) .nil ?hu ?_
    case hu => exact Nat.lt_of_lt_of_le (Nat.add_lt_add_right hu 64) (by decide)
    rw [decide_eq_false (by simp)]
    (repeat' ((fail_if_success k_extra "stopL191"); k_extra "kst"))
    rename News _ _ _ _ => NX
    obtain ⟨t0, ht0⟩ := ints_head hfv
    refine sub_at (News.isList NX (.tail _ hlf)) (by decide) (by decide) ht0 ?_
    (repeat' ((fail_if_success k_extra "stopL191"); k_extra "kst"))
    all_goals first | (rename _ ≠ _ => hc; exact absurd rfl hc) | exact h _ _ (by assumption) (News.sub (by assumption) fun p hp => .tail _ hp)
  · rw [e] at hfv
    rw [e2] at hgv
    refine ne_intsK (News.isList NX (.tail _ hlf)) hfv (News.isList NX (.head _)) .nil ?hu2 ?_
    case hu2 => exact Nat.lt_of_lt_of_le (Nat.add_lt_add_right hu 64) (by decide)
    rw [decide_eq_true rfl]
    (repeat' ((fail_if_success k_extra "stopL191"); k_extra "kst"))
    rename News _ _ _ _ => NX
    obtain ⟨t0, ht0⟩ := ints_head hgv
    refine sub_at (News.isList NX (.tail _ hll)) (by decide) (by decide) ht0 ?_
    (repeat' ((fail_if_success k_extra "stopL191"); k_extra "kst"))
    all_goals first | (rename _ ≠ _ => hc; exact absurd rfl hc) | exact h _ _ (by assumption) (News.sub (by assumption) fun p hp => .tail _ hp)
end
end
end
example : True := by first | (w_top off; (fail_if_success walk1); trivial) | trivial
section
open PySem PySem.W PySem.Calls PyProof.Rows
section

section
variable {w : World} {A₀ : Around} {E : Value → Shared → Prop} {s : Shared} {base h₀ : Heap} {fa : Addr} {cdv : Value} {outer : List Env} {L d u : Nat} {m mg mb : Str → Option Value} {loose : List Str} {mean : ExcName → Option Value}
  {X : Fx} {low lowest out : Int} {tl tw tu : Tok} {cN : Nat} {rV : List Value} {rN : Nat} {oO : Obj} {dV : List Value} {dN : Nat} {mO : Obj} {tV : List Value} {tN : Nat} {fV : List Value} {fN : Nat} {sO : Obj}
  {rgO wdO o1 o2 : Obj} {rowV roV : List Value} {lvN rowN roN tnn : Nat} {tes : List DictEntry} {junk : List (Addr × Obj)}
example : True := by
  (k_with "stopL201" => first | (with_reducible show wpAny _ _ (exec (Stmt.Assign [Expr.Name _ _] (Expr.ListComp _ _ _ _) _) _) _ _ _) | (with_reducible show wpAny _ _ (call (Value.ref 270) _ _) _ _ _) | (with_reducible show wpAny _ _ (call (Value.ref 284) _ _) _ _ _) | (with_reducible show wpAny _ _ (call (Value.ref 441) _ _) _ _ _) | (with_reducible show wpAny _ _ (call (Value.builtin "list.append") [_, _] _) _ _ _) | (with_reducible show wpAny _ _ (exec (Stmt.If (Expr.BoolOp _ _ _) [Stmt.Return _ _] [] _) _) _ _ _))
  trivial
set_option maxRecDepth 100000 in
set_option maxHeartbeats 1000000 in
theorem take_piece {Q : Flow → Shared → Prop} {its : List IR} {own spl : List (Int × Nat)} {fs : List Int} {st : List (Int × Value) × List (Int × Value)} {k : Int} {tk0 tc : Tok} {q : IR} {ks : List IR} {ys : List Value} {D n Dk nk : Nat} (C : CT w A₀ base h₀ (lawEnv L fa cdv) outer L d u mg mb loose mean) (O : X.Ok) (F : Fr h₀ L s.heap m) (hd8 : d < 700) (hu8 : u < 7000) (hdd : m (Str.ofString "deed") = some (.int k tk0)) (hk4 : k < 4) (hco : m (Str.ofString "coder") = some (.ref X.K.c)) (hlv : m (Str.ofString "live") = some (.ref X.lv)) (hfr : m (Str.ofString "fresh") = some (.ref q.x)) (hct : m (Str.ofString "count") = some (.int X.K.cnt tc))
    (N : News h₀ L s.heap (coreL X.K (cdE X.K low tl lowest tw out tu) cN rV rN oO dV dN mO tV tN fV fN sO (topL X rgO wdO (its.map fun i => Value.ref i.x) lvN rowV rowN o1 o2 roV roN tes tnn (itL X.K.h (its ++ [q]) ++ junk)))) (hW : Wf X (its ++ [q]) junk) (b : Box w rgO wdO o1 o2) (hz : its.length ≤ 1000) (hm : q.mode = "reg") (hqx : q.x ∉ its.map (·.x)) (hI : IntsAre fV fs) (hfs : fs.length < 500) (hrz : rV.length < 5000) (hd : oO.IsDictOf (intK w) (refs own)) (hdV : IntsAre dV (own.map (·.1))) (hs : sO.IsDictOf (intK w) (refs spl)) (hsz : spl.length ≤ 50) (hC : Core X.K.cnt its own spl) (hsl : SlotsOk low lowest fs (spl.map (·.1))) (V : Vals its st)
    (ho1 : o1.data = .cell (some (.ref D))) (hD : (D, listOf (List.toArray ys) n) ∈ junk) (hys : IntsAre ys (own.map (·.1))) (hcl : (cellsFrom (L + 1) lawSc.names []).lookup (Str.ofString "order") = some X.c1)
    (ho2 : o2.data = .cell (some (.ref Dk))) (hDk : (Dk, listOf (List.toArray (ks.map fun i => Value.ref i.x)) nk) ∈ junk) (hkz : ks.length ≤ 2) (hks : ∀ i ∈ ks, i ∈ its) (hcl2 : (cellsFrom (L + 1) lawSc.names []).lookup (Str.ofString "kept") = some X.c2)
    (h : ∀ h' tk S1 st1 ops T r t junk1 junk2 own' lvN' rN' oO' sO' dV' dN' t1 t2 fV' fN' Df Dl, Lp X.K.cnt ⟨low, lowest, fs, own, spl, its, rV, topL X rgO wdO (its.map fun i => Value.ref i.x) lvN rowV rowN o1 o2 roV roN tes tnn junk1⟩ S1 st st1 ops T → (∀ p ∈ ops, (p.tp, p.o) ∈ junk2) → (∀ p ∈ junk, p ∈ junk2) → Core X.K.cnt (S1.its ++ [q.held r t]) own' S1.spl → (∀ tt, Vals (S1.its ++ [q.held r t]) (stored st1.1 r (.int q.value tt), st1.2)) →
      Fr h₀ L h' (fun y => if y = Str.ofString "longest" then some (.ref Dl) else if y = Str.ofString "free" then some (.ref Df) else if y = Str.ofString "wanted" then some (.ref q.x) else m y) → IntsAre fV' S1.fs → oO'.IsDictOf (intK w) (refs own') → IntsAre dV' (own'.map (·.1)) → sO'.IsDictOf (intK w) (refs S1.spl) →
      News h₀ L h' (coreL X.K (cdE X.K S1.low t1 S1.lowest t2 out tu) cN S1.rV rN' oO' dV' dN' mO tV tN fV' fN' sO' (topL X rgO wdO ((S1.its ++ [q.held r t]).map fun i => Value.ref i.x) lvN' rowV rowN o1 o2 roV roN tes tnn (itL X.K.h (S1.its ++ [q.held r t]) ++ junk2))) → Wf X (S1.its ++ [q.held r t]) junk2 → Q .next { s with heap := h', toks := tk }) :
    wpAny (model pg w) (AA d u (lawEnv L fa cdv :: outer)) (execs (cut 6 1) (lawEnv L fa cdv)) Q E s := by
  have fill : PySem.Challenge.rw_pb0351_01 = PySem.Challenge.rw_pb0351_01 ∧ Mine.hd.heap_1 = Mine.hd.heap_1 := by
    k_fill
    exact ⟨rfl, rfl⟩
  clear fill
  refine hide fun Pz kPz => ?_
  obtain ⟨B, XH, T, hf, hke, hdp, hu⟩ := C
  refine kPz ?_
  clear kPz
  simp only [lawEnv, cut, lawSc, lapB, lawB, lawS, PySem.Challenge.rw_pb0351_01, PySem.Challenge.pw_pb0351_01, OpenLaw.row, nth, lastS, bodyOf, scopeOf, List.drop, List.take] at *
  have hown := hC.own_le O.O.c1
  have hndq : ((its ++ [q]).map (·.x)).Nodup := by rw [List.map_append]; exact snoc_nodup hC.xnd hqx
  have hkq : ∀ i ∈ ks, i ∈ its ++ [q] := fun i hi => List.mem_append_left _ (hks i hi)
  have hne6 : k ≠ 6 := by omega
  have hne4 : k ≠ 4 := by omega
  (repeat' ((fail_if_success k_extra "stopL201"); k_extra "kst"))
  all_goals first | (exfalso; omega) | skip
  (try dsimp only [List.cons_append, List.nil_append])
  rename Fr _ _ _ _ => FX
  rename News _ _ _ _ => NX
  refine free_stmt (own := own) (D := D) (n := n) (ys := ys) (its := its ++ [q]) (lvV := its.map fun i => Value.ref i.x) (by k_extra "tb_rel") O FX (tc := tc) (by assumption) NX ho1 hD hys hcl ?_
  intro h2 tk2 Df nf fv F2 hfv N2 hDf
  have hW2 := hW.more (o := listOf (List.toArray fv) nf) hDf
  replace N2 := to_junk N2
  clear FX NX
  (repeat' ((fail_if_success k_extra "stopL201"); k_extra "kst"))
  rename Fr _ _ _ _ => FX
  rename News _ _ _ _ => NX
  refine long_stmt (own := own) (D := D) (n := n) (ys := ys) (Dk := Dk) (nk := nk) (ks := ks) (its := its ++ [q]) (lvV := its.map fun i => Value.ref i.x) (by k_extra "tb_rel") O FX NX ho1 (.tail _ hD) hys hown hcl ho2 (.tail _ hDk) hkz hkq hndq hcl2 ?_
  intro h3 tk3 Dl nl gv F3 hgv N3 hDl
  have hW3 := hW2.more (o := listOf (List.toArray gv) nl) hDl
  replace N3 := to_junk N3
  clear FX NX
  have hc2 : X.c2 = L + 1 + 1 := (Option.some.inj (hcl2.symm.trans (by rfl)))
  have hl3 : (X.c2, o2) ∈ (coreL X.K (cdE X.K low tl lowest tw out tu) cN rV rN oO dV dN mO tV tN fV fN sO (topL X rgO wdO (its.map fun i => Value.ref i.x) lvN rowV rowN o1 o2 roV roN tes tnn (itL X.K.h (its ++ [q]) ++ (Dl, listOf (List.toArray gv) nl) :: (Df, listOf (List.toArray fv) nf) :: junk))) := by k_mem
  have hl4 := hl3
  rw [hc2] at hl4
  (repeat' ((fail_if_success k_extra "stopL201"); k_extra "kst"))
  rename Fr _ _ _ _ => FX
  rename News _ _ _ _ => NX
  refine take_spec (its := its ++ [q]) (ks := ks) (q := q) (fs := fs) (own := own) (spl := spl) (kl := Dk) (kn := nk) (by k_extra "tb_rel") (by omega) (by omega) O.O FX (top_its NX) (hW3.top O) hI (by omega) (by omega) hd hdV (by omega) hC.ond hs (by omega) hsl.give.2.1 (List.mem_append_right _ (.head _))
    (fun p hp e => let ⟨u0, a0, a1, _⟩ := hC.o2i p hp; hqx (List.mem_map.mpr ⟨u0, a0, a1.trans e⟩)) (fun p hp => let ⟨u0, a0, a1, a2, _⟩ := hC.o2i p hp; ⟨u0, List.mem_append_left _ a0, a1, a2⟩) hkq (List.mem_append_right (topL X rgO wdO (its.map fun i : IR => Value.ref i.x) lvN rowV rowN o1 o2 roV roN tes tnn []) (.tail _ (.tail _ hDk))) hkz ?_
  intro h4 tk4 r t4 low' lowest' fs' own' spl' its' rV' rN' ext' oO' sO' dV' dN' t1 t2 fV' fN' TK F4 hI4 hd4 hdV4 hs4 N4 W4
  refine hide fun Pz kPz => ?_
  obtain ⟨S1, st1, ops, T, t, P, hg, rfl, rfl, rfl, rfl, rfl, rfl, rfl, rfl, hC4, hV4⟩ := fresh_end hC O.O.c1 hsl V hm hqx hks TK
  refine kPz ?_
  clear kPz
  have hext : S1.ext = T ++ topL X rgO wdO (its.map fun i => Value.ref i.x) lvN rowV rowN o1 o2 roV roN tes tnn ((Dl, listOf (List.toArray gv) nl) :: (Df, listOf (List.toArray fv) nf) :: junk) := P.ext
  rw [hext] at N4 W4
  have hdx : (S1.its ++ [q.held r t]).map (·.dx) = (its ++ [q]).map (·.dx) := by
    rw [List.map_append, List.map_append, P.dxs]; rfl
  have W5 := Wf.tuples b N4 P.tup hW3 W4 hdx
  have N5 := its_back N4
  clear FX NX N4
  (repeat' ((fail_if_success k_extra "stopL201"); k_extra "kst"))
  rename Fr _ _ _ _ => FX
  rename News _ _ _ _ => NX
  refine append_L FX NX (upd_lv O (fun p hp => W5.apart O p hp _ (.tail _ (.tail _ (.head _))))) (by rw [List.length_map]; omega) ?_
  intro h6 F6 N6
  have hlv6 : (its.map fun i => Value.ref i.x) ++ [Value.ref q.x] = (S1.its ++ [q.held r t]).map fun i => Value.ref i.x := by
    have e := congrArg (List.map Value.ref) P.xs
    rw [List.map_map, List.map_map] at e
    rw [List.map_append]
    exact congrArg (· ++ [Value.ref q.x]) e.symm
  rw [hlv6] at N6
  clear FX NX
  (repeat' ((fail_if_success k_extra "stopL201"); k_extra "kst"))
  rename Fr _ _ _ _ => FX
  rename News _ _ _ _ => NX
  refine check_stmt (q := q.held r t) (ks := ks) (own := own) (its := S1.its ++ [q.held r t]) (by k_extra "tb_rel") O FX NX (by rfl) (List.mem_append_right _ (.head _)) hm (by rfl) (by rfl) (List.mem_append_right _ (.tail _ (.head _))) (List.mem_append_right _ (.head _)) hfv hgv hg ?_
  intro h7 tk7 F7 N7
  clear FX NX
  (repeat' ((fail_if_success k_extra "stopL201"); k_extra "kst"))
  exact h _ _ S1 st1 ops T r t _ _ _ _ _ _ _ _ _ _ _ _ _ _ _ P (fun p hp => List.mem_append_left _ (P.opsIn p hp)) (fun p hp => List.mem_append_right _ (.tail _ (.tail _ hp))) hC4 hV4 (by assumption) hI4 hd4 hdV4 hs4 (by assumption) W5
end
end
end
example : True := by first | (w_top off; (fail_if_success walk1); trivial) | trivial
section
open PySem PySem.W PySem.Calls PyProof.Rows
section

section
variable {w : World} {A₀ : Around} {E : Value → Shared → Prop} {s : Shared} {base h₀ : Heap} {fa : Addr} {cdv : Value} {outer : List Env} {L d u : Nat} {m mg mb : Str → Option Value} {loose : List Str} {mean : ExcName → Option Value}
  {X : Fx} {low lowest out : Int} {tl tw tu : Tok} {cN : Nat} {rV : List Value} {rN : Nat} {oO : Obj} {dV : List Value} {dN : Nat} {mO : Obj} {tV : List Value} {tN : Nat} {fV : List Value} {fN : Nat} {sO : Obj}
  {rgO wdO o1 o2 : Obj} {rowV roV : List Value} {lvN rowN roN tnn : Nat} {tes : List DictEntry} {junk : List (Addr × Obj)}
example : True := by
  (k_with "stopL211" => first | (with_reducible show wpAny _ _ (exec (Stmt.Assign [Expr.Name _ _] (Expr.ListComp _ _ _ _) _) _) _ _ _) | (with_reducible show wpAny _ _ (call (Value.ref 363) _ _) _ _ _) | (with_reducible show wpAny _ _ (call (Value.ref 284) _ _) _ _ _) | (with_reducible show wpAny _ _ (call (Value.ref 441) _ _) _ _ _) | (with_reducible show wpAny _ _ (call (Value.ref 299) _ _) _ _ _) | (with_reducible show wpAny _ _ (call (Value.builtin "len") _ _) _ _ _) | (with_reducible show wpAny _ _ (subscriptTail _ _ _ _) _ _ _) | (with_reducible show wpAny _ _ (exec (Stmt.If (Expr.BoolOp _ _ _) [Stmt.Return _ _] [] _) _) _ _ _))
  trivial
set_option maxRecDepth 100000 in
set_option maxHeartbeats 1000000 in
theorem reload_piece {Q : Flow → Shared → Prop} {its : List IR} {own spl : List (Int × Nat)} {fs : List Int} {st : List (Int × Value) × List (Int × Value)} {k : Int} {tk0 tc : Tok} {ks : List IR} {ys : List Value} {ns : List Int} {D n Dk nk : Nat} (C : CT w A₀ base h₀ (lawEnv L fa cdv) outer L d u mg mb loose mean) (O : X.Ok) (F : Fr h₀ L s.heap m) (hd8 : d < 700) (hu8 : u < 7000) (hdd : m (Str.ofString "deed") = some (.int k tk0)) (hk4 : k ≠ 4) (hk6 : k ≠ 6) (hco : m (Str.ofString "coder") = some (.ref X.K.c)) (hlv : m (Str.ofString "live") = some (.ref X.lv)) (hrw : m (Str.ofString "row") = some (.ref X.row)) (hfr : m (Str.ofString "fresh") = some .none) (hct : m (Str.ofString "count") = some (.int X.K.cnt tc))
    (N : News h₀ L s.heap (coreL X.K (cdE X.K low tl lowest tw out tu) cN rV rN oO dV dN mO tV tN fV fN sO (topL X rgO wdO (its.map fun i => Value.ref i.x) lvN rowV rowN o1 o2 roV roN tes tnn (itL X.K.h its ++ junk)))) (hW : Wf X its junk) (b : Box w rgO wdO o1 o2) (hne : its ≠ []) (hz : its.length ≤ 1000) (hrow : IntsAre rowV ns) (hnz : ns.length ≤ 900) (hI : IntsAre fV fs) (hfs : fs.length < 500) (hrz : rV.length < 5000) (hd : oO.IsDictOf (intK w) (refs own)) (hdV : IntsAre dV (own.map (·.1))) (hs : sO.IsDictOf (intK w) (refs spl)) (hsz : spl.length ≤ 50) (hC : Core X.K.cnt its own spl) (hsl : SlotsOk low lowest fs (spl.map (·.1))) (V : Vals its st)
    (ho1 : o1.data = .cell (some (.ref D))) (hD : (D, listOf (List.toArray ys) n) ∈ junk) (hys : IntsAre ys (own.map (·.1))) (hcl : (cellsFrom (L + 1) lawSc.names []).lookup (Str.ofString "order") = some X.c1)
    (ho2 : o2.data = .cell (some (.ref Dk))) (hDk : (Dk, listOf (List.toArray (ks.map fun i => Value.ref i.x)) nk) ∈ junk) (hkz : ks.length ≤ 2) (hks : ∀ i ∈ ks, i ∈ its) (hcl2 : (cellsFrom (L + 1) lawSc.names []).lookup (Str.ofString "kept") = some X.c2)
    (hcont : ∀ h' tk q rowV' rowN' ns', Fr h₀ L h' (fun y => if y = Str.ofString "wanted" then some (.ref q) else m y) → IntsAre rowV' ns' → ns'.length ≤ ns.length → News h₀ L h' (coreL X.K (cdE X.K low tl lowest tw out tu) cN rV rN oO dV dN mO tV tN fV fN sO (topL X rgO wdO (its.map fun i => Value.ref i.x) lvN rowV' rowN' o1 o2 roV roN tes tnn (itL X.K.h its ++ junk))) → Q .cont { s with heap := h', toks := tk })
    (h : ∀ h' tk S1 st1 ops T (q : Addr) junk1 junk2 rN' oO' sO' dV' dN' t1 t2 fV' fN' Df Dl rowV' rowN' ns', Lp X.K.cnt ⟨low, lowest, fs, own, spl, its, rV, topL X rgO wdO (its.map fun i => Value.ref i.x) lvN rowV' rowN' o1 o2 roV roN tes tnn junk1⟩ S1 st st1 ops T → (∀ p ∈ ops, (p.tp, p.o) ∈ junk2) → (∀ p ∈ junk, p ∈ junk2) →
      Fr h₀ L h' (fun y => if y = Str.ofString "longest" then some (.ref Dl) else if y = Str.ofString "free" then some (.ref Df) else if y = Str.ofString "wanted" then some (.ref q) else m y) → IntsAre rowV' ns' → ns'.length ≤ ns.length → IntsAre fV' S1.fs → oO'.IsDictOf (intK w) (refs S1.own) → IntsAre dV' (S1.own.map (·.1)) → sO'.IsDictOf (intK w) (refs S1.spl) →
      News h₀ L h' (coreL X.K (cdE X.K S1.low t1 S1.lowest t2 out tu) cN S1.rV rN' oO' dV' dN' mO tV tN fV' fN' sO' (topL X rgO wdO (S1.its.map fun i => Value.ref i.x) lvN rowV' rowN' o1 o2 roV roN tes tnn (itL X.K.h S1.its ++ junk2))) → Wf X S1.its junk2 → Q .next { s with heap := h', toks := tk }) :
    wpAny (model pg w) (AA d u (lawEnv L fa cdv :: outer)) (execs (cut 6 1) (lawEnv L fa cdv)) Q E s := by
  have fill : PySem.Challenge.rw_pb0351_01 = PySem.Challenge.rw_pb0351_01 ∧ Mine.hd.heap_1 = Mine.hd.heap_1 := by
    k_fill
    exact ⟨rfl, rfl⟩
  clear fill
  refine hide fun Pz kPz => ?_
  obtain ⟨B, XH, T, hf, hke, hdp, hu⟩ := C
  refine kPz ?_
  clear kPz
  simp only [lawEnv, cut, lawSc, lapB, lawB, lawS, PySem.Challenge.rw_pb0351_01, PySem.Challenge.pw_pb0351_01, OpenLaw.row, nth, lastS, bodyOf, scopeOf, List.drop, List.take] at *
  have hown := hC.own_le O.O.c1
  have hlp : 0 < its.length := List.length_pos_iff.mpr hne
  (repeat' ((fail_if_success k_extra "stopL211"); k_extra "kst"))
  all_goals first | (exfalso; omega) | skip
  (try dsimp only [List.cons_append, List.nil_append])
  rename Fr _ _ _ _ => FX
  rename News _ _ _ _ => NX
  refine next_top (by k_extra "tb_rel") O FX NX hrow hnz (fun p hp => hW.apart O p hp _ (.tail _ (.tail _ (.tail _ (.head _))))) ?_
  intro h1 tk1 k1 t1 rv rn ns' F1 hi hl N1
  clear FX NX
  (repeat' ((fail_if_success k_extra "stopL211"); k_extra "kst"))
  refine len_L N1 (n := its.length) (D := X.lv) (vs := its.map fun i => Value.ref i.x) (c := lvN) (by k_mem) (by rw [List.length_map]) (by omega) ?_
  have hn0 : ((its.length : Nat) : Int) ≠ 0 := by omega
  have f0 : 0 ≤ k1.fmod its.length := Int.fmod_nonneg_of_pos _ (by omega)
  have f1 : k1.fmod its.length < its.length := Int.fmod_lt_of_pos _ (by omega)
  (repeat' ((fail_if_success k_extra "stopL211"); k_extra "kst"))
  generalize k1.fmod its.length = kk at *
  have hkk : kk.toNat < its.length := by omega
  obtain ⟨q, hq0⟩ : ∃ q, its[kk.toNat]? = some q := ⟨_, List.getElem?_eq_getElem hkk⟩
  have hq : q ∈ its := List.mem_of_getElem? hq0
  refine sub_at (vs := its.map fun i => Value.ref i.x) (v := .ref q.x) (News.isList N1 (by k_mem)) f0 (by omega) (by rw [List.getElem?_map, hq0]; rfl) ?_
  have hq1 : (q.x, instObj 108 q.dx) ∈ itL X.K.h its ++ junk := List.mem_append_left _ (itL_o hq)
  have hq2 : (q.dx, dictOf (itE X.K.h q.t q.v q.mode q.tm q.value q.tv q.reg q.tr q.root q.slot q.ts q.was q.ta) q.n) ∈ itL X.K.h its ++ junk := List.mem_append_left _ (itL_d hq)
  rcases hC.i2 q hq with ⟨hmq, _⟩ | ⟨hmq, _, hsq⟩
  · rw [hmq] at hq2
    (repeat' ((fail_if_success k_extra "stopL211"); k_extra "kst"))
    exact hcont _ _ q.x rv rn ns' (by assumption) hi hl (by assumption)
  rw [hmq] at hq2
  (repeat' ((fail_if_success k_extra "stopL211"); k_extra "kst"))
  (try dsimp only [List.cons_append, List.nil_append])
  rename Fr _ _ _ _ => FX
  rename News _ _ _ _ => NX
  refine free_stmt (own := own) (D := D) (n := n) (ys := ys) (its := its) (lvV := its.map fun i => Value.ref i.x) (by k_extra "tb_rel") O FX (tc := tc) (by assumption) NX ho1 hD hys hcl ?_
  intro h2 tk2 Df nf fv F2 hfv N2 hDf
  have hW2 := hW.more (o := listOf (List.toArray fv) nf) hDf
  replace N2 := to_junk N2
  clear FX NX
  (repeat' ((fail_if_success k_extra "stopL211"); k_extra "kst"))
  rename Fr _ _ _ _ => FX
  rename News _ _ _ _ => NX
  refine long_stmt (own := own) (D := D) (n := n) (ys := ys) (Dk := Dk) (nk := nk) (ks := ks) (its := its) (lvV := its.map fun i => Value.ref i.x) (by k_extra "tb_rel") O FX NX ho1 (.tail _ hD) hys hown hcl ho2 (.tail _ hDk) hkz hks hC.xnd hcl2 ?_
  intro h3 tk3 Dl nl gv F3 hgv N3 hDl
  have hW3 := hW2.more (o := listOf (List.toArray gv) nl) hDl
  replace N3 := to_junk N3
  clear FX NX
  have hc2 : X.c2 = L + 1 + 1 := (Option.some.inj (hcl2.symm.trans (by rfl)))
  have hl3 : (X.c2, o2) ∈ (coreL X.K (cdE X.K low tl lowest tw out tu) cN rV rN oO dV dN mO tV tN fV fN sO (topL X rgO wdO (its.map fun i => Value.ref i.x) lvN rv rn o1 o2 roV roN tes tnn (itL X.K.h its ++ (Dl, listOf (List.toArray gv) nl) :: (Df, listOf (List.toArray fv) nf) :: junk))) := by k_mem
  have hl4 := hl3
  rw [hc2] at hl4
  (repeat' ((fail_if_success k_extra "stopL211"); k_extra "kst"))
  rename Fr _ _ _ _ => FX
  rename News _ _ _ _ => NX
  obtain ⟨sa, sb, hsp⟩ := mem_app hsq
  have hsn := hC.snd
  rw [hsp, List.map_append, List.map_cons] at hsn
  obtain ⟨_, hsa, hsb⟩ := mid_nodup hsn
  refine reload_spec (its := its) (ks := ks) (q := q) (fs := fs) (own := own) (spl := spl) (kl := Dk) (kn := nk) (sa := sa) (sb := sb) (by k_extra "tb_rel") (by omega) (by omega) O.O FX (top_its NX) (hW3.top O) hI (by omega) (by omega) hd hdV (by omega) hC.ond hs (by omega) hsl.give.2.1 hq
    (fun p hp e => ?ne1) (fun p hp => let ⟨u0, a0, a1, a2, _⟩ := hC.o2i p hp; ⟨u0, a0, a1, a2⟩) hks (List.mem_append_right (topL X rgO wdO (its.map fun i : IR => Value.ref i.x) lvN rv rn o1 o2 roV roN tes tnn []) (.tail _ (.tail _ hDk))) hkz hmq hsp hsa hsb ?_
  case ne1 =>
    refine hide fun Pz kPz => ?_
    obtain ⟨u0, a0, a1, _, a3⟩ := hC.o2i p hp
    refine kPz ?_
    clear kPz
    rw [one_x hC.xnd a0 hq (a1.trans e), hmq] at a3
    exact absurd a3 spill_ne_reg
  intro h4 tk4 r low' lowest' fs' own' spl' its' rV' rN' ext' oO' sO' dV' dN' t1 t2 fV' fN' z tp t3 t4 t5 TK hz' F4 hI4 hd4 hdV4 hs4 N4 W4
  refine hide fun Pz kPz => ?_
  obtain ⟨st2, ops, T, P, hg, t, hqn, hqm⟩ := load_end hC O.O.c1 hsl V hq hmq hks hsp hz' tp t3 t4 t5 TK
  refine kPz ?_
  clear kPz
  have hext : (tp, tupD r q.slot t3 t4 t5 q.ts) :: ext' = T ++ topL X rgO wdO (its.map fun i => Value.ref i.x) lvN rv rn o1 o2 roV roN tes tnn ((Dl, listOf (List.toArray gv) nl) :: (Df, listOf (List.toArray fv) nf) :: junk) := P.ext
  rw [hext] at N4 W4
  have W5 := Wf.tuples b N4 P.tup hW3 W4 P.dxs
  have N5 := its_back N4
  have hlv6 : (its.map fun i => Value.ref i.x) = (upd its' q.x (·.back)).map fun i => Value.ref i.x := by
    have e := congrArg (List.map Value.ref) P.xs
    rw [List.map_map, List.map_map] at e
    exact e.symm
  rw [hlv6] at N5
  clear FX NX N4
  (repeat' ((fail_if_success k_extra "stopL211"); k_extra "kst"))
  rename Fr _ _ _ _ => FX
  rename News _ _ _ _ => NX
  refine check_stmt (q := (q.held r t).back) (ks := ks) (own := own) (its := upd its' q.x (·.back)) (by k_extra "tb_rel") O FX NX (by rfl) hqn hqm (by rfl) (by rfl) (List.mem_append_right _ (.tail _ (.head _))) (List.mem_append_right _ (.head _)) hfv hgv hg ?_
  intro h7 tk7 F7 N7
  clear FX NX
  (repeat' ((fail_if_success k_extra "stopL211"); k_extra "kst"))
  exact h _ _ _ st2 ops T q.x _ _ _ _ _ _ _ _ _ _ _ _ _ rv rn ns' P (fun p hp => List.mem_append_left _ (P.opsIn p hp)) (fun p hp => List.mem_append_right _ (.tail _ (.tail _ hp))) (by assumption) hi hl hI4 hd4 hdV4 hs4 (by assumption) W5
end
end
end
example : True := by first | (w_top off; (fail_if_success walk1); trivial) | trivial
section
open PySem PySem.W PySem.Calls PyProof.Rows
section

section
variable {w : World} {A₀ : Around} {E : Value → Shared → Prop} {s : Shared} {base h₀ : Heap} {fa : Addr} {cdv : Value} {outer : List Env} {L d u : Nat} {m mg mb : Str → Option Value} {loose : List Str} {mean : ExcName → Option Value}
  {X : Fx} {low lowest out : Int} {tl tw tu : Tok} {cN : Nat} {rV : List Value} {rN : Nat} {oO : Obj} {dV : List Value} {dN : Nat} {mO : Obj} {tV : List Value} {tN : Nat} {fV : List Value} {fN : Nat} {sO : Obj}
  {rgO wdO o1 o2 : Obj} {rowV roV : List Value} {lvN rowN roN tnn : Nat} {tes : List DictEntry} {junk : List (Addr × Obj)}
example : True := by
  (k_with "stopL221" => first | (with_reducible show wpAny _ _ (call (Value.ref 248) _ _) _ _ _) | (with_reducible show wpAny _ _ (call (Value.ref 241) _ _) _ _ _))
  trivial
set_option maxRecDepth 100000 in
set_option maxHeartbeats 1000000 in
theorem end_piece {Q : Flow → Shared → Prop} {its : List IR} {tdp : Tok} (C : CT w A₀ base h₀ (lawEnv L fa cdv) outer L d u mg mb loose mean) (O : X.Ok) (F : Fr h₀ L s.heap m) (hd8 : d < 700) (hu8 : u < 7000) (hco : m (Str.ofString "coder") = some (.ref X.K.c)) (hdp0 : m (Str.ofString "deepest") = some (.int lowest tdp))
    (N : News h₀ L s.heap (coreL X.K (cdE X.K low tl lowest tw 0 tu) cN rV rN oO dV dN mO tV tN fV fN sO (topL X rgO wdO (its.map fun i => Value.ref i.x) lvN rowV rowN o1 o2 roV roN tes tnn (itL X.K.h its ++ junk)))) (hW : Wf X its junk) (hlow : -100000 ≤ lowest ∧ lowest ≤ 0) (h : ∀ h' tk m', Fr h₀ L h' m' → Q (.ret (.bool true)) { s with heap := h', toks := tk }) :
    wpAny (model pg w) (AA d u (lawEnv L fa cdv :: outer)) (execs (lawB.drop 13) (lawEnv L fa cdv)) Q E s := by
  have fill : PySem.Challenge.rw_pb0351_01 = PySem.Challenge.rw_pb0351_01 ∧ Mine.hd.heap_1 = Mine.hd.heap_1 := by
    k_fill
    exact ⟨rfl, rfl⟩
  clear fill
  refine hide fun Pz kPz => ?_
  obtain ⟨B, XH, T, hf, hke, hdp, hu⟩ := C
  refine kPz ?_
  clear kPz
  simp only [lawEnv, cut, lawSc, lapB, lawB, lawS, PySem.Challenge.rw_pb0351_01, PySem.Challenge.pw_pb0351_01, OpenLaw.row, nth, lastS, bodyOf, scopeOf, List.drop, List.take] at *
  (repeat' ((fail_if_success k_extra "stopL221"); k_extra "kst"))
  rename Fr _ _ _ _ => FX
  rename News _ _ _ _ => NX
  refine reach_out_spec (by k_extra "tb_rel") O.O FX NX (hW.off O) ?_
  intro h1 tk1 t1 F1 N1
  rw [if_pos (by decide)] at N1
  clear FX NX
  (repeat' ((fail_if_success k_extra "stopL221"); k_extra "kst"))
  rename Fr _ _ _ _ => FX
  rename News _ _ _ _ => NX
  refine reach_out_spec (by k_extra "tb_rel") O.O FX NX (hW.off O) ?_
  intro h2 tk2 t2 F2 N2
  rw [if_neg (by decide)] at N2
  clear FX NX
  (repeat' ((fail_if_success k_extra "stopL221"); k_extra "kst"))
  rename Fr _ _ _ _ => FX
  rename News _ _ _ _ => NX
  refine frame_size_spec (by k_extra "tb_rel") O.O FX NX ⟨by decide, by decide⟩ hlow ?_
  intro h3 tk3 t3 F3 N3
  clear FX NX
  (repeat' ((fail_if_success k_extra "stopL221"); k_extra "kst"))
  have e : (4 * 3 - lowest == 12 - lowest) = true := beq_iff_eq.mpr (by omega)
  rw [e]
  exact h _ _ _ (by assumption)
end
end
end
end
example : True := by first | (w_top off; (fail_if_success walk1); trivial) | trivial
section
open PySem PySem.W PySem.Calls PyProof.Rows PySem.Spec
section
/-- the law's names that stay -/
structure Names (X : Fx) (m : Str → Option Value) (made spot dp : Int) : Prop where
  row : m (Str.ofString "row") = some (.ref X.row)
  ty : m (Str.ofString "types") = some (.ref X.tx)
  co : m (Str.ofString "coder") = some (.ref X.K.c)
  ro : m (Str.ofString "roots") = some (.ref X.ro)
  rg : m (Str.ofString "regs") = some (.ref X.rg)
  wd : m (Str.ofString "words") = some (.ref X.wd)
  lv : m (Str.ofString "live") = some (.ref X.lv)
  cnt : ∃ t, m (Str.ofString "count") = some (.int X.K.cnt t)
  made : ∃ t, m (Str.ofString "made") = some (.int made t)
  spot : ∃ t, m (Str.ofString "spot") = some (.int spot t)
  dp : ∃ t, m (Str.ofString "deepest") = some (.int dp t)
abbrev fixedN : List Str := [Str.ofString "row", Str.ofString "types", Str.ofString "coder", Str.ofString "roots", Str.ofString "regs", Str.ofString "words", Str.ofString "live", Str.ofString "count", Str.ofString "made", Str.ofString "spot", Str.ofString "deepest"]
abbrev setN (y : Str) (v : Option Value) (m : Str → Option Value) : Str → Option Value := fun z => if z = y then v else m z
theorem ne_set {y z : Str} {v : Option Value} {m : Str → Option Value} {r : Option Value} (h : m z = r) (hy : z ≠ y) : setN y v m z = r := by
  show (if z = y then v else m z) = r
  rw [if_neg hy]; exact h
section
variable {X : Fx} {m : Str → Option Value} {made spot dp : Int}
theorem Names.set (h : Names X m made spot dp) (y : Str) (v : Option Value) (hy : fixedN.contains y = false) : Names X (setN y v m) made spot dp := by
  have q : ∀ z ∈ fixedN, z ≠ y := fun z hz e => by
    rw [List.contains_eq_mem, decide_eq_false_iff_not] at hy
    exact hy (e ▸ hz)
  have hb : ∀ k, ∀ z, fixedN[k]? = some z → z ≠ y := fun k z hz => q z (List.mem_of_getElem? hz)
  exact ⟨ne_set h.row (hb 0 _ rfl), ne_set h.ty (hb 1 _ rfl), ne_set h.co (hb 2 _ rfl), ne_set h.ro (hb 3 _ rfl), ne_set h.rg (hb 4 _ rfl), ne_set h.wd (hb 5 _ rfl), ne_set h.lv (hb 6 _ rfl), let ⟨t, e⟩ := h.cnt; ⟨t, ne_set e (hb 7 _ rfl)⟩, let ⟨t, e⟩ := h.made; ⟨t, ne_set e (hb 8 _ rfl)⟩, let ⟨t, e⟩ := h.spot; ⟨t, ne_set e (hb 9 _ rfl)⟩, let ⟨t, e⟩ := h.dp; ⟨t, ne_set e (hb 10 _ rfl)⟩⟩
theorem Names.setDp (h : Names X m made spot dp) (dp' : Int) (t : Tok) : Names X (setN (Str.ofString "deepest") (some (.int dp' t)) m) made spot dp' :=
  ⟨ne_set h.row (by decide), ne_set h.ty (by decide), ne_set h.co (by decide), ne_set h.ro (by decide), ne_set h.rg (by decide), ne_set h.wd (by decide), ne_set h.lv (by decide), let ⟨t, e⟩ := h.cnt; ⟨t, ne_set e (by decide)⟩, let ⟨t, e⟩ := h.made; ⟨t, ne_set e (by decide)⟩, let ⟨t, e⟩ := h.spot; ⟨t, ne_set e (by decide)⟩, ⟨t, if_pos rfl⟩⟩
theorem Names.setMade (h : Names X m made spot dp) (made' : Int) (t : Tok) : Names X (setN (Str.ofString "made") (some (.int made' t)) m) made' spot dp :=
  ⟨ne_set h.row (by decide), ne_set h.ty (by decide), ne_set h.co (by decide), ne_set h.ro (by decide), ne_set h.rg (by decide), ne_set h.wd (by decide), ne_set h.lv (by decide), let ⟨t, e⟩ := h.cnt; ⟨t, ne_set e (by decide)⟩, ⟨t, if_pos rfl⟩, let ⟨t, e⟩ := h.spot; ⟨t, ne_set e (by decide)⟩, let ⟨t, e⟩ := h.dp; ⟨t, ne_set e (by decide)⟩⟩
theorem Names.setSpot (h : Names X m made spot dp) (spot' : Int) (t : Tok) : Names X (setN (Str.ofString "spot") (some (.int spot' t)) m) made spot' dp :=
  ⟨ne_set h.row (by decide), ne_set h.ty (by decide), ne_set h.co (by decide), ne_set h.ro (by decide), ne_set h.rg (by decide), ne_set h.wd (by decide), ne_set h.lv (by decide), let ⟨t, e⟩ := h.cnt; ⟨t, ne_set e (by decide)⟩, let ⟨t, e⟩ := h.made; ⟨t, ne_set e (by decide)⟩, ⟨t, if_pos rfl⟩, let ⟨t, e⟩ := h.dp; ⟨t, ne_set e (by decide)⟩⟩
end
theorem next_cut {M : Model} {A : Around} {E : Value → Shared → Prop} {s : Shared} {env : Env} {Q : Flow → Shared → Prop} (i n j : Nat) (hj : i + n = j) (h : wpAny M A (execs (cut i n) env) (fun f s' => match f with | .next => wpAny M A (execs (lapB.drop j) env) Q E s' | f => Q f s') E s) : wpAny M A (execs (lapB.drop i) env) Q E s := by
  subst hj
  refine execs_cut n ?_
  rw [List.drop_drop]
  exact h
theorem lap_end {M : Model} {A : Around} {E : Value → Shared → Prop} {s : Shared} {env : Env} {Q : Flow → Shared → Prop} (h : Q .next s) : wpAny M A (execs (lapB.drop 19) env) Q E s := by
  have e : lapB.drop 19 = [] := by rfl
  rw [e]
  unfold execs
  exact wpAny_pure h
theorem stored_len (kvs : List (Int × Value)) (k : Int) (v : Value) : (stored kvs k v).length ≤ kvs.length + 1 := by
  unfold stored
  split
  · rw [List.length_map]; exact Nat.le_succ _
  · rw [List.length_append, List.length_singleton]; exact Nat.le_refl _
section
variable {w : World} {A₀ : Around} {E : Value → Shared → Prop} {s : Shared} {base h₀ : Heap} {fa : Addr} {cdv : Value} {outer : List Env} {L d u : Nat} {m mg mb : Str → Option Value} {loose : List Str} {mean : ExcName → Option Value}
  {X : Fx} {low lowest out : Int} {tl tw tu : Tok} {cN : Nat} {rV : List Value} {rN : Nat} {oO : Obj} {dV : List Value} {dN : Nat} {mO : Obj} {tV : List Value} {tN : Nat} {fV : List Value} {fN : Nat} {sO : Obj}
  {rgO wdO o1 o2 : Obj} {rowV roV : List Value} {lvN rowN roN tnn : Nat} {tes : List DictEntry} {junk : List (Addr × Obj)}
theorem tail_c {Q : Flow → Shared → Prop} {its : List IR} {own spl : List (Int × Nat)} {fs rs : List Int} {rk wk mkvs : List (Int × Value)} {i : Nat} {made spot low0 : Int} {tlp : Tok} (C : CT w A₀ base h₀ (lawEnv L fa cdv) outer L d u mg mb loose mean) (O : X.Ok) (F : Fr h₀ L s.heap m) (hd8 : d < 700) (hu8 : u < 7000) (M : Names X m made spot low0) (hlap : m (Str.ofString "lap") = some (.int (i : Nat) tlp))
    (N : News h₀ L s.heap (coreL X.K (cdE X.K low tl lowest tw out tu) cN rV rN oO dV dN mO tV tN fV fN sO (topL X rgO wdO (its.map fun i => Value.ref i.x) lvN rowV rowN o1 o2 roV roN tes tnn (itL X.K.h its ++ junk)))) (hW : Wf X its junk) (hz : its.length ≤ 40) (hd : oO.IsDictOf (intK w) (refs own)) (hs : sO.IsDictOf (intK w) (refs spl)) (hsz : spl.length ≤ 50) (hC : Core X.K.cnt its own spl) (hsl : SlotsOk low lowest fs (spl.map (·.1)))
    (hr : rgO.IsDictOf (intK w) rk) (hw : wdO.IsDictOf (intK w) wk) (V : Vals its (rk, wk)) (hdeep : low = low0 ∨ low ∈ spl.map (·.1)) (hle : low ≤ low0) (hlb : -100000 ≤ low) (hout : out = 0)
    (hIr : IntsAre roV rs) (hIt : IntsAre tV rs) (hrs : rs.length ≤ 2) (hmO : mO.IsDictOf (intK w) mkvs) (hmz : mkvs.length ≤ 90)
    (h : ∀ h' tk m' mO' mkvs' junk', Fr h₀ L h' m' → Names X m' made spot low → mO'.IsDictOf (intK w) mkvs' → mkvs'.length ≤ mkvs.length + 1 → Wf X its junk' → (∀ p ∈ junk, p ∈ junk') → News h₀ L h' (coreL X.K (cdE X.K low tl lowest tw out tu) cN rV rN oO dV dN mO' tV tN fV fN sO (topL X rgO wdO (its.map fun i => Value.ref i.x) lvN rowV rowN o1 o2 roV roN tes tnn (itL X.K.h its ++ junk'))) → Q .next { s with heap := h', toks := tk }) :
    wpAny (model pg w) (AA d u (lawEnv L fa cdv :: outer)) (execs (lapB.drop 10) (lawEnv L fa cdv)) Q (fun _ _ => False) s := by
  have hz' : its.length ≤ 1000 := Nat.le_trans hz (by decide)
  refine next_cut 10 1 11 rfl (holders_piece C O F M.lv N hz' hC.xnd ?_)
  intro h1 tk1 D1 n1 F1 N1 hD1
  have hW1 := hW.more (o := listOf (List.toArray ((its.filter (fun i : IR => decide (i.mode = "reg"))).map (fun i : IR => Value.int i.reg i.tr))) n1) hD1
  have M1 := M.set (Str.ofString "holders") (some (.ref D1)) (by decide)
  refine next_cut 11 1 12 rfl (slots_piece (s := ⟨h1, _, _, tk1, _⟩) C O F1 M1.lv N1 hz' hC.xnd ?_)
  intro h2 tk2 D2 n2 F2 N2 hD2
  have hW2 := hW1.more (o := listOf (List.toArray ((its.filter (fun i : IR => decide (i.mode = "spill"))).map (fun i : IR => Value.int i.slot i.ts))) n2) hD2
  have M2 := M1.set (Str.ofString "slots") (some (.ref D2)) (by decide)
  refine next_cut 12 1 13 rfl (sorted_piece (s := ⟨h2, _, _, tk2, _⟩) C O F2 (by rfl) M2.co N2 (.tail _ (.head _)) hC hd ?_)
  intro h3 tk3 F3 N3
  refine next_cut 13 1 14 rfl (slotok_piece (s := ⟨h3, _, _, tk3, _⟩) C O F3 (by rfl) N3 (.head _) hC hsl hz' ?_)
  intro h4 tk4 F4 N4
  obtain ⟨tdp, hdp⟩ := M2.dp
  refine next_cut 14 1 15 rfl (deepest_piece (s := ⟨h4, _, _, tk4, _⟩) C O F4 (by rfl) hdp N4 (.head _) hz' ?_)
  intro h5 tk5 Mx t5 F5 N5 hMi hMa
  have hkeys : ∀ x, x ∈ (its.filter (fun i : IR => decide (i.mode = "spill"))).map (·.slot) ↔ x ∈ spl.map (·.1) := fun x => by
    have e := hC.spl_perm.map (·.1)
    rw [List.map_map] at e
    exact e.mem_iff
  have eM : Mx = low := by
    have h1 : Mx ≤ low := by
      rcases hdeep with e | e
      · have := hMa low0 (.head _); omega
      · exact hMa low (.tail _ ((hkeys low).mpr e))
    have h2 : low ≤ Mx := by
      rcases List.mem_cons.mp hMi with e | e
      · omega
      · exact (hsl.all Mx (List.mem_append_right _ ((hkeys Mx).mp e))).1
    omega
  subst eM
  have M5 := M2.setDp Mx t5
  refine next_cut 15 1 16 rfl (values_piece (s := ⟨h5, _, _, tk5, _⟩) C O F5 M5.lv M5.rg M5.wd N5 hr hw (fun i hi => (hC.i2 i hi).imp (·.1) (·.1)) V hz' ?_)
  intro h6 tk6 z6 F6 N6
  have M6 := M5.set (Str.ofString "item") (z6 (Str.ofString "item")) (by decide)
  have F6' : Fr h₀ L h6 (setN (Str.ofString "item") (z6 (Str.ofString "item")) (setN (Str.ofString "deepest") (some (.int Mx t5)) (setN (Str.ofString "slots") (some (.ref D2)) (setN (Str.ofString "holders") (some (.ref D1)) m)))) := by
    have e : (fun y => if y = Str.ofString "item" then z6 y else setN (Str.ofString "deepest") (some (.int Mx t5)) (setN (Str.ofString "slots") (some (.ref D2)) (setN (Str.ofString "holders") (some (.ref D1)) m)) y) = setN (Str.ofString "item") (z6 (Str.ofString "item")) (setN (Str.ofString "deepest") (some (.int Mx t5)) (setN (Str.ofString "slots") (some (.ref D2)) (setN (Str.ofString "holders") (some (.ref D1)) m))) := by
      funext y
      by_cases e : y = Str.ofString "item"
      · subst e; simp only [setN, if_true]
      · simp only [setN, if_neg e]
    exact e ▸ F6
  have eL : lowest = Mx := hsl.eq
  refine next_cut 16 1 17 rfl (frame_piece (s := ⟨h6, _, _, tk6, _⟩) (tdp := t5) C O F6' M6.co (by rw [eL]; rfl) N6 hout ⟨by omega, by have := hsl.le; omega⟩ ?_)
  intro h7 tk7 F7 N7
  refine next_cut 17 1 18 rfl (note_piece (s := ⟨h7, _, _, tk7, _⟩) (lap := (i : Nat)) (tlp := tlp) C O F7 (by omega) (by omega) M6.co (ne_set (ne_set (ne_set (ne_set hlap (by decide)) (by decide)) (by decide)) (by decide)) N7 (hW2.top O) hC hs hsz hIt hrs hmO (by omega) ?_)
  intro h8 tk8 mO' sl sn sv ns' F8 isv pns ons hmO' N8 hsl8
  have hW8 := hW2.more (o := listOf (List.toArray sv) sn) (fun p hp => Nat.ne_of_lt (hsl8 p hp))
  refine next_cut 18 1 19 rfl (maps_piece (s := ⟨h8, _, _, tk8, _⟩) (lap := (i : Nat)) (tlp := tlp) C O F8 M6.co (ne_set (ne_set (ne_set (ne_set hlap (by decide)) (by decide)) (by decide)) (by decide)) M6.lv M6.ro N8 hC (fun i hi => rootOf_mem hW.W hi) (by omega) hIr hrs hmO' (by rw [vA_stored, if_pos rfl]) (.head _) isv pns ons ?_)
  intro h9 tk9 F9 N9
  refine lap_end ?_
  exact h h9 tk9 _ mO' _ _ F9 M6 hmO' (stored_len _ _ _) hW8 (fun p hp => .tail _ (.tail _ (.tail _ hp))) N9
end
end
end
example : True := by first | (w_top off; (fail_if_success walk1); trivial) | trivial
section
open PySem PySem.W PySem.Calls PyProof.Rows PySem.Spec
section
theorem play_len : ∀ (ops : List Op) (st : List (Int × Value) × List (Int × Value)), (ops.foldl playF st).1.length ≤ st.1.length + ops.length ∧ (ops.foldl playF st).2.length ≤ st.2.length + ops.length
  | [], st => ⟨Nat.le_refl _, Nat.le_refl _⟩
  | q :: ops, st => by
    obtain ⟨h1, h2⟩ := play_len ops (playF st q)
    have h3 : (playF st q).1.length ≤ st.1.length + 1 ∧ (playF st q).2.length ≤ st.2.length + 1 := by
      unfold playF
      split
      · exact ⟨Nat.le_succ _, stored_len _ _ _⟩
      · exact ⟨stored_len _ _ _, Nat.le_succ _⟩
    rw [List.length_cons, List.foldl_cons]
    omega
section
variable {w : World} {A₀ : Around} {E : Value → Shared → Prop} {s : Shared} {base h₀ : Heap} {fa : Addr} {cdv : Value} {outer : List Env} {L d u : Nat} {m mg mb : Str → Option Value} {loose : List Str} {mean : ExcName → Option Value}
  {X : Fx} {low lowest out : Int} {tl tw tu : Tok} {cN : Nat} {rV : List Value} {rN : Nat} {oO : Obj} {dV : List Value} {dN : Nat} {mO : Obj} {tV : List Value} {tN : Nat} {fV : List Value} {fN : Nat} {sO : Obj}
  {rgO wdO o1 o2 : Obj} {rowV roV : List Value} {lvN rowN roN tnn : Nat} {tes : List DictEntry} {junk : List (Addr × Obj)}
theorem tail_n {Q : Flow → Shared → Prop} {its : List IR} {own spl : List (Int × Nat)} {fs rs : List Int} {rk wk mkvs : List (Int × Value)} {pv : List Value} {ops : List Op} {i : Nat} {made low0 : Int} {tlp : Tok} (C : CT w A₀ base h₀ (lawEnv L fa cdv) outer L d u mg mb loose mean) (O : X.Ok) (F : Fr h₀ L s.heap m) (hd8 : d < 700) (hu8 : u < 7000) (M : Names X m made (pv.length : Nat) low0) (hlap : m (Str.ofString "lap") = some (.int (i : Nat) tlp)) (hfr : m (Str.ofString "fresh") = some .none)
    (N : News h₀ L s.heap (coreL X.K (cdE X.K low tl lowest tw out tu) cN (pv ++ ops.map fun q => Value.ref q.tp) rN oO dV dN mO tV tN fV fN sO (topL X rgO wdO (its.map fun i => Value.ref i.x) lvN rowV rowN o1 o2 roV roN tes tnn (itL X.K.h its ++ junk)))) (hops : ∀ q ∈ ops, (q.tp, q.o) ∈ junk) (hW : Wf X its junk) (hz : its.length ≤ 40) (hd : oO.IsDictOf (intK w) (refs own)) (hs : sO.IsDictOf (intK w) (refs spl)) (hsz : spl.length ≤ 50) (hC : Core X.K.cnt its own spl) (hsl : SlotsOk low lowest fs (spl.map (·.1)))
    (hr : rgO.IsDictOf (intK w) rk) (hw : wdO.IsDictOf (intK w) wk) (V : Vals its (ops.foldl playF (rk, wk))) (hb1 : pv.length + ops.length ≤ 9000) (hb2 : rk.length + ops.length ≤ 8000) (hb3 : wk.length + ops.length ≤ 8000) (hdeep : low = low0 ∨ low ∈ spl.map (·.1)) (hle : low ≤ low0) (hlb : -100000 ≤ low) (hout : out = 0)
    (hIr : IntsAre roV rs) (hIt : IntsAre tV rs) (hrs : rs.length ≤ 2) (hmO : mO.IsDictOf (intK w) mkvs) (hmz : mkvs.length ≤ 90)
    (h : ∀ h' tk m' mO' mkvs' junk' rgO' wdO' rk' wk', Fr h₀ L h' m' → Names X m' made ((pv ++ ops.map fun q => Value.ref q.tp).length : Nat) low → rgO'.IsDictOf (intK w) rk' → wdO'.IsDictOf (intK w) wk' → rk'.length ≤ rk.length + ops.length + 1 → wk'.length ≤ wk.length + ops.length → Vals its (rk', wk') →
      mO'.IsDictOf (intK w) mkvs' → mkvs'.length ≤ mkvs.length + 1 → Wf X its junk' → (∀ p ∈ junk, p ∈ junk') → News h₀ L h' (coreL X.K (cdE X.K low tl lowest tw out tu) cN (pv ++ ops.map fun q => Value.ref q.tp) rN oO dV dN mO' tV tN fV fN sO (topL X rgO' wdO' (its.map fun i => Value.ref i.x) lvN rowV rowN o1 o2 roV roN tes tnn (itL X.K.h its ++ junk'))) → Q .next { s with heap := h', toks := tk }) :
    wpAny (model pg w) (AA d u (lawEnv L fa cdv :: outer)) (execs (lapB.drop 7) (lawEnv L fa cdv)) Q (fun _ _ => False) s := by
  obtain ⟨tsp, hsp⟩ := M.spot
  obtain ⟨pl1, pl2⟩ := play_len ops (rk, wk)
  dsimp only at pl1 pl2
  have hk : ∀ p ∈ itL X.K.h its ++ junk, p.1 ≠ X.rg ∧ p.1 ≠ X.wd := fun p hp => ⟨hW.apart O p hp _ (.head _), hW.apart O p hp _ (.tail _ (.head _))⟩
  refine next_cut 7 2 9 rfl (played_piece (pv := pv) (ops := ops) C O F (by omega) (by omega) M.co hsp M.rg M.wd N hk hops hr hw hb1 (by omega) (by omega) ?_)
  intro h1 tk1 rgO' wdO' t1 F1 hr1 hw1 N1
  have M1 := M.setSpot (((pv ++ ops.map fun q => Value.ref q.tp).length : Nat) : Int) t1
  refine next_cut 9 1 10 rfl (nofresh_piece (s := ⟨h1, _, _, tk1, _⟩) C O F1 (ne_set hfr (by decide)) N1 ?_)
  intro h2 tk2 F2 N2
  refine tail_c (s := ⟨h2, _, _, tk2, _⟩) C O F2 hd8 hu8 M1 (ne_set hlap (by decide)) N2 hW hz hd hs hsz hC hsl hr1 hw1 V hdeep hle hlb hout hIr hIt hrs hmO hmz ?_
  intro h' tk m' mO' mkvs' junk' F' M' hmO' hml hW' hj N'
  exact h h' tk m' mO' mkvs' junk' rgO' wdO' _ _ F' M' hr1 hw1 (by omega) pl2 V hmO' hml hW' hj N'
theorem tail_f {Q : Flow → Shared → Prop} {q : IR} {its : List IR} {own spl : List (Int × Nat)} {fs rs : List Int} {rk wk mkvs : List (Int × Value)} {pv : List Value} {ops : List Op} {i : Nat} {made low0 : Int} {tlp : Tok} (C : CT w A₀ base h₀ (lawEnv L fa cdv) outer L d u mg mb loose mean) (O : X.Ok) (F : Fr h₀ L s.heap m) (hd8 : d < 700) (hu8 : u < 7000) (M : Names X m made (pv.length : Nat) low0) (hlap : m (Str.ofString "lap") = some (.int (i : Nat) tlp)) (hq : q ∈ its) (hfr : m (Str.ofString "fresh") = some (.ref q.x))
    (N : News h₀ L s.heap (coreL X.K (cdE X.K low tl lowest tw out tu) cN (pv ++ ops.map fun q => Value.ref q.tp) rN oO dV dN mO tV tN fV fN sO (topL X rgO wdO (its.map fun i => Value.ref i.x) lvN rowV rowN o1 o2 roV roN tes tnn (itL X.K.h its ++ junk)))) (hops : ∀ q ∈ ops, (q.tp, q.o) ∈ junk) (hW : Wf X its junk) (hz : its.length ≤ 40) (hd : oO.IsDictOf (intK w) (refs own)) (hs : sO.IsDictOf (intK w) (refs spl)) (hsz : spl.length ≤ 50) (hC : Core X.K.cnt its own spl) (hsl : SlotsOk low lowest fs (spl.map (·.1)))
    (hr : rgO.IsDictOf (intK w) rk) (hw : wdO.IsDictOf (intK w) wk) (V : ∀ tt, Vals its (stored (ops.foldl playF (rk, wk)).1 q.reg (.int q.value tt), (ops.foldl playF (rk, wk)).2)) (hb1 : pv.length + ops.length ≤ 9000) (hb2 : rk.length + ops.length ≤ 8000) (hb3 : wk.length + ops.length ≤ 8000) (hdeep : low = low0 ∨ low ∈ spl.map (·.1)) (hle : low ≤ low0) (hlb : -100000 ≤ low) (hout : out = 0)
    (hIr : IntsAre roV rs) (hIt : IntsAre tV rs) (hrs : rs.length ≤ 2) (hmO : mO.IsDictOf (intK w) mkvs) (hmz : mkvs.length ≤ 90)
    (h : ∀ h' tk m' mO' mkvs' junk' rgO' wdO' rk' wk', Fr h₀ L h' m' → Names X m' made ((pv ++ ops.map fun q => Value.ref q.tp).length : Nat) low → rgO'.IsDictOf (intK w) rk' → wdO'.IsDictOf (intK w) wk' → rk'.length ≤ rk.length + ops.length + 1 → wk'.length ≤ wk.length + ops.length → Vals its (rk', wk') →
      mO'.IsDictOf (intK w) mkvs' → mkvs'.length ≤ mkvs.length + 1 → Wf X its junk' → (∀ p ∈ junk, p ∈ junk') → News h₀ L h' (coreL X.K (cdE X.K low tl lowest tw out tu) cN (pv ++ ops.map fun q => Value.ref q.tp) rN oO dV dN mO' tV tN fV fN sO (topL X rgO' wdO' (its.map fun i => Value.ref i.x) lvN rowV rowN o1 o2 roV roN tes tnn (itL X.K.h its ++ junk'))) → Q .next { s with heap := h', toks := tk }) :
    wpAny (model pg w) (AA d u (lawEnv L fa cdv :: outer)) (execs (lapB.drop 7) (lawEnv L fa cdv)) Q (fun _ _ => False) s := by
  obtain ⟨tsp, hsp⟩ := M.spot
  obtain ⟨pl1, pl2⟩ := play_len ops (rk, wk)
  dsimp only at pl1 pl2
  have hk : ∀ p ∈ itL X.K.h its ++ junk, p.1 ≠ X.rg ∧ p.1 ≠ X.wd := fun p hp => ⟨hW.apart O p hp _ (.head _), hW.apart O p hp _ (.tail _ (.head _))⟩
  refine next_cut 7 2 9 rfl (played_piece (pv := pv) (ops := ops) C O F (by omega) (by omega) M.co hsp M.rg M.wd N hk hops hr hw hb1 (by omega) (by omega) ?_)
  intro h1 tk1 rgO' wdO' t1 F1 hr1 hw1 N1
  have M1 := M.setSpot (((pv ++ ops.map fun q => Value.ref q.tp).length : Nat) : Int) t1
  refine next_cut 9 1 10 rfl (fresh_piece (s := ⟨h1, _, _, tk1, _⟩) (q := q) C O F1 hq (ne_set hfr (by decide)) M1.rg N1 hr1 (by omega) (fun p hp => (hk p hp).1) ?_)
  intro h2 tk2 rgO2 F2 hr2 N2
  have sl := stored_len (ops.foldl playF (rk, wk)).1 q.reg (.int q.value q.tv)
  refine tail_c (s := ⟨h2, _, _, tk2, _⟩) C O F2 hd8 hu8 M1 (ne_set hlap (by decide)) N2 hW hz hd hs hsz hC hsl hr2 hw1 (V q.tv) hdeep hle hlb hout hIr hIt hrs hmO hmz ?_
  intro h' tk m' mO' mkvs' junk' F' M' hmO' hml hW' hj N'
  exact h h' tk m' mO' mkvs' junk' rgO2 wdO' _ _ F' M' hr2 hw1 (by omega) pl2 (V q.tv) hmO' hml hW' hj N'
end
end
end
example : True := by first | (w_top off; (fail_if_success walk1); trivial) | trivial
section
open PySem PySem.W PySem.Calls PyProof.Rows PySem.Spec
section
set_option genInjectivity false in
set_option genSizeOf false in
/-- the law's state between two laps -/
structure LS (w : World) (X : Fx) (i : Nat) (m : Str → Option Value) where
  its : List IR
  own : List (Int × Nat)
  spl : List (Int × Nat)
  fs : List Int
  ns : List Int
  rs : List Int
  rk : List (Int × Value)
  wk : List (Int × Value)
  mkvs : List (Int × Value)
  low : Int
  lowest : Int
  made : Int
  tl : Tok
  tw : Tok
  tu : Tok
  cN : Nat
  rV : List Value
  rN : Nat
  oO : Obj
  dV : List Value
  dN : Nat
  mO : Obj
  tV : List Value
  tN : Nat
  fV : List Value
  fN : Nat
  sO : Obj
  rgO : Obj
  wdO : Obj
  o1 : Obj
  o2 : Obj
  rowV : List Value
  roV : List Value
  lvN : Nat
  rowN : Nat
  roN : Nat
  tnn : Nat
  tes : List DictEntry
  ti : Nat
  names : Names X m made (rV.length : Nat) low
  wf : Wf X its []
  core : Core X.K.cnt its own spl
  slots : SlotsOk low lowest fs (spl.map (·.1))
  vals : Vals its (rk, wk)
  hI : IntsAre fV fs
  hd : oO.IsDictOf (intK w) (refs own)
  hdV : IntsAre dV (own.map (·.1))
  hs : sO.IsDictOf (intK w) (refs spl)
  hr : rgO.IsDictOf (intK w) rk
  hw : wdO.IsDictOf (intK w) wk
  ho1 : ∃ v, o1.data = .cell v
  ho2 : ∃ v, o2.data = .cell v
  hrow : IntsAre rowV ns
  hns : ns.length ≤ 900
  hIr : IntsAre roV rs
  hIt : IntsAre tV rs
  hrs : rs.length ≤ 2
  hm : mO.IsDictOf (intK w) mkvs
  hti : getL (Str.ofString "integer") tes = some (some (.ref ti))
  b1 : its.length ≤ i
  b2 : fs.length ≤ i
  b3 : rV.length ≤ 8 * i
  b4 : rk.length ≤ 9 * i
  b5 : wk.length ≤ 9 * i
  b6 : mkvs.length ≤ i
  b7 : -16 - 32 * (i : Int) ≤ low
  b8 : 0 ≤ made ∧ made ≤ i
variable {w : World} {X : Fx} {i : Nat} {m : Str → Option Value}
def LS.led (S : LS w X i m) (junk : List (Addr × Obj)) : List (Addr × Obj) :=
  coreL X.K (cdE X.K S.low S.tl S.lowest S.tw 0 S.tu) S.cN S.rV S.rN S.oO S.dV S.dN S.mO S.tV S.tN S.fV S.fN S.sO (topL X S.rgO S.wdO (S.its.map fun i => Value.ref i.x) S.lvN S.rowV S.rowN S.o1 S.o2 S.roV S.roN S.tes S.tnn (itL X.K.h S.its ++ junk))
theorem Wf.nil {its : List IR} {junk : List (Addr × Obj)} (W : Wf X its junk) : Wf X its [] := ⟨W.W.less (fun _ h => nomatch h), W.lv, fun _ h => nomatch h⟩
theorem Wf.fresh_x {its : List IR} {q : IR} {junk : List (Addr × Obj)} (W : Wf X (its ++ [q]) junk) : q.x ∉ its.map (·.x) := by
  intro h
  obtain ⟨j, hj, e⟩ := List.mem_map.mp h
  have h1 := (List.pairwise_append.mp W.W.pw).2.2 j hj q (.head _)
  have h2 := (W.W.lo q (List.mem_append_right _ (.head _))).2
  omega
theorem Core.spl_le {cnt : Int} {its : List IR} {own spl : List (Int × Nat)} (C : Core cnt its own spl) : spl.length ≤ its.length := by
  have e := C.spl_perm.length_eq
  rw [List.length_map] at e
  rw [← e]
  exact List.length_filter_le _ _
section
variable {A₀ : Around} {E : Value → Shared → Prop} {s : Shared} {base h₀ : Heap} {fa : Addr} {cdv : Value} {outer : List Env} {L d u : Nat} {mg mb : Str → Option Value} {loose : List Str} {mean : ExcName → Option Value}
  {low lowest out : Int} {tl tw tu : Tok} {cN : Nat} {rV : List Value} {rN : Nat} {oO : Obj} {dV : List Value} {dN : Nat} {mO : Obj} {tV : List Value} {tN : Nat} {fV : List Value} {fN : Nat} {sO : Obj}
  {rgO wdO o1 o2 : Obj} {rowV roV : List Value} {lvN rowN roN tnn : Nat} {tes : List DictEntry} {junk : List (Addr × Obj)}
/-- the lap's end as the next lap's start -/
abbrev Nxt (w : World) (X : Fx) (i : Nat) (h₀ : Heap) (L : Addr) (s : Shared) (e : Addr × Obj) (Q : Flow → Shared → Prop) : Prop :=
  ∀ f h' tk m' (S' : LS w X (i + 1) m') junk', (f = .next ∨ f = .cont) → Fr h₀ L h' m' → e ∈ junk' → Wf X S'.its junk' → News h₀ L h' (S'.led junk') → Q f { s with heap := h', toks := tk }
theorem bA {a i n : Nat} (hi : i < 31) (h : a ≤ i) (e : Nat.ble 30 n = true) : a ≤ n := Nat.le_trans h (Nat.le_trans (Nat.le_of_lt_succ hi) (Nat.le_of_ble_eq_true e))
theorem bA2 {a i n : Nat} (hi : i < 31) (h : a ≤ i) (e : Nat.ble 31 n = true) : a < n := Nat.lt_of_le_of_lt h (Nat.lt_of_lt_of_le hi (Nat.le_of_ble_eq_true e))
theorem bB {a i n : Nat} (hi : i < 31) (h : a ≤ 8 * i) (e : Nat.ble 241 n = true) : a < n := by have := Nat.le_of_ble_eq_true e; omega
theorem bC {a o i n : Nat} (hi : i < 31) (h : a ≤ 8 * i) (ho : o ≤ 8) (e : Nat.ble 248 n = true) : a + o ≤ n := by have := Nat.le_of_ble_eq_true e; omega
theorem bC1 {a o i : Nat} (h : a ≤ 8 * i) (ho : o ≤ 8) : a + o ≤ 8 * (i + 1) := by omega
theorem bC2 {a i : Nat} (h : a ≤ 8 * i) : a ≤ 8 * (i + 1) := by omega
theorem bD {a o i n : Nat} (hi : i < 31) (h : a ≤ 9 * i) (ho : o ≤ 8) (e : Nat.ble 278 n = true) : a + o ≤ n := by have := Nat.le_of_ble_eq_true e; omega
theorem bD1 {a r o i : Nat} (h : a ≤ 9 * i) (ho : o ≤ 8) (hr : r ≤ a + o + 1) : r ≤ 9 * (i + 1) := by omega
theorem bD2 {a r o i : Nat} (h : a ≤ 9 * i) (ho : o ≤ 8) (hr : r ≤ a + o) : r ≤ 9 * (i + 1) := by omega
theorem bD3 {a i : Nat} (h : a ≤ 9 * i) : a ≤ 9 * (i + 1) := by omega
theorem bE {a b i n : Nat} (hi : i < 31) (h1 : a ≤ b) (h2 : b ≤ i) (e : Nat.ble 30 n = true) : a ≤ n := bA hi (Nat.le_trans h1 h2) e
theorem bF {a b i n : Nat} (hi : i < 31) (h1 : a = b) (h2 : b ≤ i) (e : Nat.ble 30 n = true) : a ≤ n := bA hi (h1 ▸ h2) e
theorem bF1 {a b i : Nat} (h1 : a = b) (h2 : b ≤ i) : a ≤ i + 1 := Nat.le_succ_of_le (h1 ▸ h2)
theorem bG {s a b i n : Nat} (hi : i < 31) (h0 : s ≤ a) (h1 : a = b) (h2 : b ≤ i) (e : Nat.ble 30 n = true) : s ≤ n := bA hi (Nat.le_trans h0 (h1 ▸ h2)) e
theorem bH {a b i : Nat} (h1 : a ≤ b + 1) (h2 : b ≤ i) : a ≤ i + 1 := Nat.le_trans h1 (Nat.succ_le_succ h2)
theorem bJ {i : Nat} {low l : Int} (h : -16 - 32 * (i : Int) ≤ low) (h2 : low - 32 ≤ l) : -16 - 32 * ((i + 1 : Nat) : Int) ≤ l := by omega
theorem bJ1 {i : Nat} {low : Int} (h : -16 - 32 * (i : Int) ≤ low) : -16 - 32 * ((i + 1 : Nat) : Int) ≤ low := by omega
theorem bJ2 {i : Nat} {low l : Int} (hi : i < 31) (h : -16 - 32 * (i : Int) ≤ low) (h2 : low - 32 ≤ l) : -100000 ≤ l := by omega
theorem bJ3 {i : Nat} {low : Int} (hi : i < 31) (h : -16 - 32 * (i : Int) ≤ low) : -100000 ≤ low := by omega
theorem bK {i : Nat} {k : Int} (h : 0 ≤ k ∧ k ≤ i) : 0 ≤ k ∧ k ≤ (i + 1 : Nat) := by omega
theorem bK1 {i : Nat} {k : Int} (h : 0 ≤ k ∧ k ≤ i) : 0 ≤ k + 1 ∧ k + 1 ≤ (i + 1 : Nat) := by omega
example : True := by
  (k_with "omega" => first | exact lt_ble (by with_reducible assumption) rfl | exact bA (by with_reducible assumption) (by with_reducible assumption) rfl | exact bA2 (by with_reducible assumption) (by with_reducible assumption) rfl | exact Nat.le_succ_of_le (by with_reducible assumption) | exact bH (by with_reducible assumption) (by with_reducible assumption) | exact bC1 (by with_reducible assumption) (by with_reducible assumption) | exact bC2 (by with_reducible assumption) | exact bD1 (by with_reducible assumption) (by with_reducible assumption) (by with_reducible assumption) | exact bD2 (by with_reducible assumption) (by with_reducible assumption) (by with_reducible assumption) | exact bD1 (by with_reducible assumption) (Nat.zero_le _) (by with_reducible assumption) | exact bD2 (by with_reducible assumption) (Nat.zero_le _) (by with_reducible assumption) | exact bD3 (by with_reducible assumption) | exact bB (by with_reducible assumption) (by with_reducible assumption) rfl | exact bC (by with_reducible assumption) (by with_reducible assumption) (by with_reducible assumption) rfl | exact bC (by with_reducible assumption) (by with_reducible assumption) (Nat.zero_le _) rfl | exact bD (by with_reducible assumption) (by with_reducible assumption) (by with_reducible assumption) rfl | exact bD (by with_reducible assumption) (by with_reducible assumption) (Nat.zero_le _) rfl | exact bF (by with_reducible assumption) (by with_reducible assumption) (by with_reducible assumption) rfl | exact bF1 (by with_reducible assumption) (by with_reducible assumption) | exact bE (by with_reducible assumption) (by with_reducible assumption) (by with_reducible assumption) rfl | exact bG (by with_reducible assumption) (by with_reducible assumption) (by with_reducible assumption) (by with_reducible assumption) rfl | exact Nat.le_trans (by with_reducible assumption) (by with_reducible assumption) | exact Nat.le_trans (by with_reducible assumption) (Nat.le_trans (by with_reducible assumption) (by with_reducible assumption)) | exact Nat.le_trans (by with_reducible assumption) (Nat.le_trans (by with_reducible assumption) (Nat.le_trans (by with_reducible assumption) (by with_reducible assumption))) | exact bJ (by with_reducible assumption) (by with_reducible assumption) | exact bJ1 (by with_reducible assumption) | exact bJ2 (by with_reducible assumption) (by with_reducible assumption) (by with_reducible assumption) | exact bJ3 (by with_reducible assumption) (by with_reducible assumption) | exact bK (by with_reducible assumption) | exact bK1 (by with_reducible assumption))
  trivial
set_option maxHeartbeats 4000000 in
theorem lap_turn {Q : Flow → Shared → Prop} {tlp : Tok} {e : Addr × Obj} (C : CT w A₀ base h₀ (lawEnv L fa cdv) outer L d u mg mb loose mean) (O : X.Ok)  (hd8 : d < 700) (hu8 : u < 7000) (hH : ∀ j, 40 ≤ j → X.K.h j = HI w.params j) (hcl : (cellsFrom (L + 1) lawSc.names []).lookup (Str.ofString "order") = some X.c1) (hcl2 : (cellsFrom (L + 1) lawSc.names []).lookup (Str.ofString "kept") = some X.c2) (hi : i < 31)
    (S : LS w X i m) (F : Fr h₀ L s.heap (setN (Str.ofString "lap") (some (.int (i : Nat) tlp)) m)) (N : News h₀ L s.heap (S.led [e])) (he : Wf X S.its [e]) (h : Nxt w X i h₀ L s e Q) :
    wpAny (model pg w) (AA d u (lawEnv L fa cdv :: outer)) (execs lapB (lawEnv L fa cdv)) Q (fun _ _ => False) s := by
  obtain ⟨its, own, spl, fs, ns, rs, rk, wk, mkvs, low, lowest, made, tl, tw, tu, cN, rV, rN, oO, dV, dN, mO, tV, tN, fV, fN, sO, rgO, wdO, o1, o2, rowV, roV, lvN, rowN, roN, tnn, tes, ti, M0, wf, hC, hsl, V, hI, hd, hdV, hs, hr, hw, ⟨vo1, ho1⟩, ⟨vo2, ho2⟩, hrow, hns, hIr, hIt, hrs, hm, hti, b1, b2, b3, b4, b5, b6, b7, b8⟩ := S
  dsimp only [LS.led] at N he
  have M1 := M0.set (Str.ofString "lap") (some (.int (i : Nat) tlp)) (by decide)
  have hlap1 : setN (Str.ofString "lap") (some (.int (i : Nat) tlp)) m (Str.ofString "lap") = some (.int (i : Nat) tlp) := if_pos rfl
  have hown := hC.own_le O.O.c1
  have hspl := hC.spl_le
  show wpAny _ _ (execs (lapB.drop 0) _) _ _ _
  refine next_cut 0 1 1 rfl (deed_piece C O F (by omega) (by omega) M1.row N hrow hns (fun p hp => he.apart O p hp _ (.tail _ (.tail _ (.tail _ (.head _))))) ?_)
  intro h1 tk1 k t1 rowV1 rowN1 ns1 F1 k0 k8 hrow1 hl1 N1
  have M2 := M1.set (Str.ofString "deed") (some (.int k t1)) (by decide)
  refine next_cut 1 1 2 rfl (inside_piece (s := ⟨h1, _, _, tk1, _⟩) C O F1 M2.lv N1 (by omega) hC.xnd ?_)
  intro h2 tk2 Di ni F2 N2 hDi
  have hW2 := he.more (o := listOf (List.toArray ((its.filter (fun i : IR => decide (i.mode = "reg"))).map (fun i : IR => Value.ref i.x))) ni) hDi
  have M3 := M2.set (Str.ofString "inside") (some (.ref Di)) (by decide)
  refine next_cut 2 1 3 rfl (order_piece (s := ⟨h2, _, _, tk2, _⟩) (vo := vo1) C O F2 (by omega) (by omega) M3.co N2 hW2 hC hd hdV hcl ho1 ?_)
  intro h3 tk3 D D1 n n1 ys o1' F3 ho1' hys hW3 N3
  refine next_cut 3 1 4 rfl (kept_piece (s := ⟨h3, _, _, tk3, _⟩) (Di := Di) (n := ni) (vo := vo2) C O F3 (by omega) (by omega) M3.row (if_pos rfl) N3 (.tail _ (.tail _ (.head _))) (by omega) hW3 hrow1 (by omega) hcl2 ho2 ?_)
  intro h4 tk4 kk Dk rowV2 rowN2 ns2 o2' F4 kk0 kk3 ho2' hrow2 hl2 hW4 N4
  have hks : ∀ i ∈ (its.filter (fun i : IR => decide (i.mode = "reg"))).take kk.toNat, i ∈ its := fun i hi => (List.mem_filter.mp (List.mem_of_mem_take hi)).1
  have hkz : ((its.filter (fun i : IR => decide (i.mode = "reg"))).take kk.toNat).length ≤ 2 := by rw [List.length_take]; omega
  have hbox : Box w rgO wdO o1' o2' := ⟨⟨_, hr⟩, ⟨_, hw⟩, ⟨_, ho1'⟩, ⟨_, ho2'⟩⟩
  have hdd : setN (Str.ofString "inside") (some (.ref Di)) (setN (Str.ofString "deed") (some (.int k t1)) (setN (Str.ofString "lap") (some (.int (i : Nat) tlp)) m)) (Str.ofString "deed") = some (.int k t1) := ne_set (if_pos rfl) (by decide)
  have hlap3 : setN (Str.ofString "inside") (some (.ref Di)) (setN (Str.ofString "deed") (some (.int k t1)) (setN (Str.ofString "lap") (some (.int (i : Nat) tlp)) m)) (Str.ofString "lap") = some (.int (i : Nat) tlp) := ne_set (ne_set hlap1 (by decide)) (by decide)
  replace F4 : Fr h₀ L h4 (setN (Str.ofString "inside") (some (.ref Di)) (setN (Str.ofString "deed") (some (.int k t1)) (setN (Str.ofString "lap") (some (.int (i : Nat) tlp)) m))) := F4
  generalize (setN (Str.ofString "inside") (some (.ref Di)) (setN (Str.ofString "deed") (some (.int k t1)) (setN (Str.ofString "lap") (some (.int (i : Nat) tlp)) m))) = m3 at F4 M3 hdd hlap3
  obtain ⟨tc, hct⟩ := M3.cnt
  obtain ⟨tmd, hmd⟩ := M3.made
  have hlow := hsl.le
  by_cases hk4 : k < 4
  · refine next_cut 4 2 6 rfl (fresh_start (s := ⟨h4, _, _, tk4, _⟩) C O F4 hd8 hu8 hdd hk4 hmd M3.ty ⟨b8.1, by omega⟩ N4 hW4 hti hH ?_)
    intro h5 tk5 q t5 hqm hqv F5 hW5 N5
    have M5 := ((M3.set (Str.ofString "fresh") (some .none) (by decide)).set (Str.ofString "fresh") (some (.ref q.x)) (by decide)).setMade (made + 1) t5
    replace F5 : Fr h₀ L h5 (setN (Str.ofString "made") (some (.int (made + 1) t5)) (setN (Str.ofString "fresh") (some (.ref q.x)) (setN (Str.ofString "fresh") (some .none) m3))) := F5
    have hfr5 : (setN (Str.ofString "made") (some (.int (made + 1) t5)) (setN (Str.ofString "fresh") (some (.ref q.x)) (setN (Str.ofString "fresh") (some .none) m3))) (Str.ofString "fresh") = some (.ref q.x) := ne_set (if_pos rfl) (by decide)
    have hdd5 : (setN (Str.ofString "made") (some (.int (made + 1) t5)) (setN (Str.ofString "fresh") (some (.ref q.x)) (setN (Str.ofString "fresh") (some .none) m3))) (Str.ofString "deed") = some (.int k t1) := ne_set (ne_set (ne_set hdd (by decide)) (by decide)) (by decide)
    have hlap5 : (setN (Str.ofString "made") (some (.int (made + 1) t5)) (setN (Str.ofString "fresh") (some (.ref q.x)) (setN (Str.ofString "fresh") (some .none) m3))) (Str.ofString "lap") = some (.int (i : Nat) tlp) := ne_set (ne_set (ne_set hlap3 (by decide)) (by decide)) (by decide)
    generalize (setN (Str.ofString "made") (some (.int (made + 1) t5)) (setN (Str.ofString "fresh") (some (.ref q.x)) (setN (Str.ofString "fresh") (some .none) m3))) = m5 at F5 M5 hfr5 hdd5 hlap5
    obtain ⟨tc5, hct5⟩ := M5.cnt
    refine next_cut 6 1 7 rfl (take_piece (s := ⟨h5, _, _, tk5, _⟩) (tc := tc5) (st := (rk, wk)) C O F5 hd8 hu8 hdd5 hk4 M5.co M5.lv hfr5 hct5 N5 hW5 hbox (by omega) hqm hW5.fresh_x hI (by omega) (by omega) hd hdV hs (by omega) hC hsl V ho1' (.tail _ (.head _)) hys hcl ho2' (.head _) hkz hks hcl2 ?_)
    intro h6 tk6 S1 st1 ops T r t junk1 junk2 own' lvN' rN' oO' sO' dV' dN' t1' t2' fV' fN' Df Dl P hops hsub hC6 hV6 F6 hI6 hd6 hdV6 hs6 N6 hW6
    have M6 := ((M5.set (Str.ofString "wanted") (some (.ref q.x)) (by decide)).set (Str.ofString "free") (some (.ref Df)) (by decide)).set (Str.ofString "longest") (some (.ref Dl)) (by decide)
    replace F6 : Fr h₀ L h6 (setN (Str.ofString "longest") (some (.ref Dl)) (setN (Str.ofString "free") (some (.ref Df)) (setN (Str.ofString "wanted") (some (.ref q.x)) m5))) := F6
    have hfr6 : (setN (Str.ofString "longest") (some (.ref Dl)) (setN (Str.ofString "free") (some (.ref Df)) (setN (Str.ofString "wanted") (some (.ref q.x)) m5))) (Str.ofString "fresh") = some (.ref q.x) := ne_set (ne_set (ne_set hfr5 (by decide)) (by decide)) (by decide)
    have hlap6 : (setN (Str.ofString "longest") (some (.ref Dl)) (setN (Str.ofString "free") (some (.ref Df)) (setN (Str.ofString "wanted") (some (.ref q.x)) m5))) (Str.ofString "lap") = some (.int (i : Nat) tlp) := ne_set (ne_set (ne_set hlap5 (by decide)) (by decide)) (by decide)
    generalize (setN (Str.ofString "longest") (some (.ref Dl)) (setN (Str.ofString "free") (some (.ref Df)) (setN (Str.ofString "wanted") (some (.ref q.x)) m5))) = m6 at F6 M6 hfr6 hlap6
    have hrV : S1.rV = rV ++ ops.map fun q => Value.ref q.tp := P.rows
    rw [hrV] at N6
    have hst := P.play
    have p1 := P.low
    have p2 := P.lle
    have p3 := P.nops
    have p4 := P.nfs
    have p5 := congrArg List.length P.xs
    rw [List.length_map, List.length_map] at p5
    have p6 := hC6.spl_le
    have p7 : (S1.its ++ [q.held r t]).length = its.length + 1 := by rw [List.length_append, p5]; rfl
    dsimp only at p1 p2 p3 p4 p5
    refine tail_f (s := ⟨h6, _, _, tk6, _⟩) (q := q.held r t) (rk := rk) (wk := wk) (pv := rV) (ops := ops) (low0 := low) (made := made + 1) (fs := S1.fs) (i := i) (tlp := tlp) C O F6 hd8 hu8 M6 hlap6 (List.mem_append_right _ (.head _)) hfr6 N6 hops hW6 (by omega) hd6 hs6 (by omega) hC6 P.slots hr hw (fun tt => by rw [hst]; exact hV6 tt) (by omega) (by omega) (by omega) P.deep p2 (by omega) rfl hIr hIt hrs hm (by omega) ?_
    intro h7 tk7 m' mO' mkvs' junk' rgO' wdO' rk' wk' F7 M7 hr7 hw7 hl7 hl8 hV7 hm7 hml7 hW7 hj7 N7
    exact h .next h7 tk7 m' ⟨S1.its ++ [q.held r t], own', S1.spl, S1.fs, ns2, rs, rk', wk', mkvs', S1.low, S1.lowest, made + 1, t1', t2', tu, cN, _, rN', oO', dV', dN', mO', tV, tN, fV', fN', sO', rgO', wdO', o1', o2', rowV2, roV, lvN', rowN2, roN, tnn, tes, ti, M7, hW7.nil, hC6, P.slots, hV7, hI6, hd6, hdV6, hs6, hr7, hw7, ⟨_, ho1'⟩, ⟨_, ho2'⟩, hrow2, by omega, hIr, hIt, hrs, hm7, hti, by omega, by omega, by rw [List.length_append, List.length_map]; omega, by omega, by omega, by omega, by omega, by omega⟩ junk' (.inl rfl) F7 (hj7 _ (hsub _ (.tail _ (.tail _ (.tail _ (.tail _ (.head _))))))) hW7 N7
  · have hk4' : 4 ≤ k := by omega
    have M4 := M3.set (Str.ofString "fresh") (some .none) (by decide)
    have hfr4 : (setN (Str.ofString "fresh") (some .none) m3) (Str.ofString "fresh") = some .none := if_pos rfl
    have hdd4 : (setN (Str.ofString "fresh") (some .none) m3) (Str.ofString "deed") = some (.int k t1) := ne_set hdd (by decide)
    have hlap4 : (setN (Str.ofString "fresh") (some .none) m3) (Str.ofString "lap") = some (.int (i : Nat) tlp) := ne_set hlap3 (by decide)
    refine next_cut 4 2 6 rfl (nofresh_start (s := ⟨h4, _, _, tk4, _⟩) C O F4 hdd M3.lv hk4' N4 ?_ ?_)
    · intro hne h5 tk5 F5 N5
      replace F5 : Fr h₀ L h5 (setN (Str.ofString "fresh") (some .none) m3) := F5
      generalize (setN (Str.ofString "fresh") (some .none) m3) = m4 at F5 M4 hfr4 hdd4 hlap4
      by_cases hk6 : k = 6
      · subst hk6
        refine next_cut 6 1 7 rfl (spillall_piece (s := ⟨h5, _, _, tk5, _⟩) (st := (rk, wk)) C O F5 hd8 hu8 hdd4 M4.co N5 hW4 hbox hI (by omega) (by omega) hd hdV hs (by omega) hC hsl V ?_)
        intro h6 tk6 S1 st1 ops T rN' oO' sO' dV' dN' t1' t2' fV' fN' P0 ho6 F6 hI6 hd6 hdV6 hs6 N6 hW6
        have P := P0.lp hown
        have hrV : S1.rV = rV ++ ops.map fun q => Value.ref q.tp := P.rows
        rw [hrV] at N6
        have hst := P.play
        have p1 := P.low
        have p2 := P.lle
        have p3 := P.nops
        have p4 := P.nfs
        have p5 := congrArg List.length P.xs
        rw [List.length_map, List.length_map] at p5
        have p6 := P.core.spl_le
        dsimp only at p1 p2 p3 p4 p5
        refine tail_n (s := ⟨h6, _, _, tk6, _⟩) (rk := rk) (wk := wk) (pv := rV) (ops := ops) (low0 := low) (made := made) (fs := S1.fs) (own := []) (i := i) (tlp := tlp) C O F6 hd8 hu8 M4 hlap4 hfr4 N6 (fun q hq => List.mem_append_left _ (P.opsIn q hq)) hW6 (by omega) hd6 hs6 (by omega) (ho6 ▸ P.core) P.slots hr hw (by rw [hst]; exact P.vals) (by omega) (by omega) (by omega) P.deep p2 (by omega) rfl hIr hIt hrs hm (by omega) ?_
        intro h7 tk7 m' mO' mkvs' junk' rgO' wdO' rk' wk' F7 M7 hr7 hw7 hl7 hl8 hV7 hm7 hml7 hW7 hj7 N7
        exact h .next h7 tk7 m' ⟨S1.its, [], S1.spl, S1.fs, ns2, rs, rk', wk', mkvs', S1.low, S1.lowest, made, t1', t2', tu, cN, _, rN', oO', dV', dN', mO', tV, tN, fV', fN', sO', rgO', wdO', o1', o2', rowV2, roV, lvN, rowN2, roN, tnn, tes, ti, M7, hW7.nil, ho6 ▸ P.core, P.slots, hV7, hI6, hd6, hdV6, hs6, hr7, hw7, ⟨_, ho1'⟩, ⟨_, ho2'⟩, hrow2, by omega, hIr, hIt, hrs, hm7, hti, by omega, by omega, by rw [List.length_append, List.length_map]; omega, by omega, by omega, by omega, by omega, by omega⟩ junk' (.inl rfl) F7 (hj7 _ (List.mem_append_right _ (.tail _ (.tail _ (.tail _ (.tail _ (.head _))))))) hW7 N7
      · by_cases hk5 : k = 4
        · subst hk5
          refine next_cut 6 1 7 rfl (release_piece (s := ⟨h5, _, _, tk5, _⟩) (st := (rk, wk)) C O F5 hd8 hu8 hdd4 M4.co M4.lv M4.row N5 hW4 hne (by omega) hrow2 (by omega) hI (by omega) (by omega) hd hdV hs (by omega) hC hsl V ?_)
          intro h6 tk6 IA q IB oO' dV' dN' sO' fV' fN' fs' own' spl' rowV3 rowN3 ns3 hits F6 hrow3 hl3 hI6 hd6 hdV6 hs6 hC6 hS6 hf6 N6 hW6
          have M6 := M4.set (Str.ofString "gone") (some (.ref q.x)) (by decide)
          have hfr6 : (setN (Str.ofString "gone") (some (.ref q.x)) m4) (Str.ofString "fresh") = some .none := ne_set hfr4 (by decide)
          have hlap6 : (setN (Str.ofString "gone") (some (.ref q.x)) m4) (Str.ofString "lap") = some (.int (i : Nat) tlp) := ne_set hlap4 (by decide)
          have p5 := congrArg List.length hits
          rw [List.length_append, List.length_cons] at p5
          have p6 := hC6.spl_le
          rw [List.length_append] at p6
          have p7 : (IA ++ IB).length = IA.length + IB.length := List.length_append
          have V6 : Vals (IA ++ IB) (rk, wk) := V.sub fun j hj => by
            rw [hits]
            rcases List.mem_append.mp hj with q | q
            · exact List.mem_append_left _ q
            · exact List.mem_append_right _ (.tail _ q)
          have e0 : rV ++ ([] : List Op).map (fun q => Value.ref q.tp) = rV := List.append_nil _
          rw [← e0] at N6
          refine tail_n (s := ⟨h6, _, _, tk6, _⟩) (rk := rk) (wk := wk) (pv := rV) (ops := []) (low0 := low) (made := made) (fs := fs') (own := own') (i := i) (tlp := tlp) C O F6 hd8 hu8 M6 hlap6 hfr6 N6 (fun _ hq => nomatch hq) hW6 (by omega) hd6 hs6 (by omega) hC6 hS6 hr hw V6 (by show rV.length + 0 ≤ 9000; omega) (by show rk.length + 0 ≤ 8000; omega) (by show wk.length + 0 ≤ 8000; omega) (.inl rfl) (Int.le_refl _) (by omega) rfl hIr hIt hrs hm (by omega) ?_
          intro h7 tk7 m' mO' mkvs' junk' rgO' wdO' rk' wk' F7 M7 hr7 hw7 hl7 hl8 hV7 hm7 hml7 hW7 hj7 N7
          rw [e0] at M7 N7
          have hl7' : rk'.length ≤ rk.length + 0 + 1 := hl7
          have hl8' : wk'.length ≤ wk.length + 0 := hl8
          exact h .next h7 tk7 m' ⟨IA ++ IB, own', spl', fs', ns3, rs, rk', wk', mkvs', low, lowest, made, tl, tw, tu, cN, rV, rN, oO', dV', dN', mO', tV, tN, fV', fN', sO', rgO', wdO', o1', o2', rowV3, roV, lvN + 1, rowN3, roN, tnn, tes, ti, M7, hW7.nil, hC6, hS6, hV7, hI6, hd6, hdV6, hs6, hr7, hw7, ⟨_, ho1'⟩, ⟨_, ho2'⟩, hrow3, by omega, hIr, hIt, hrs, hm7, hti, by omega, by omega, by omega, by omega, by omega, by omega, by omega, by omega⟩ junk' (.inl rfl) F7 (hj7 _ (.tail _ (.tail _ (.tail _ (.tail _ (.head _)))))) hW7 N7
        · obtain ⟨tc4, hct4⟩ := M4.cnt
          refine next_cut 6 1 7 rfl (reload_piece (s := ⟨h5, _, _, tk5, _⟩) (tc := tc4) (st := (rk, wk)) C O F5 hd8 hu8 hdd4 hk5 hk6 M4.co M4.lv M4.row hfr4 hct4 N5 hW4 hbox hne (by omega) hrow2 (by omega) hI (by omega) (by omega) hd hdV hs (by omega) hC hsl V ho1' (.tail _ (.head _)) hys hcl ho2' (.head _) hkz hks hcl2 ?_ ?_)
          · intro h6 tk6 q rowV3 rowN3 ns3 F6 hrow3 hl3 N6
            have M6 := M4.set (Str.ofString "wanted") (some (.ref q)) (by decide)
            exact h .cont h6 tk6 _ ⟨its, own, spl, fs, ns3, rs, rk, wk, mkvs, low, lowest, made, tl, tw, tu, cN, rV, rN, oO, dV, dN, mO, tV, tN, fV, fN, sO, rgO, wdO, o1', o2', rowV3, roV, lvN, rowN3, roN, tnn, tes, ti, M6, wf, hC, hsl, V, hI, hd, hdV, hs, hr, hw, ⟨_, ho1'⟩, ⟨_, ho2'⟩, hrow3, by omega, hIr, hIt, hrs, hm, hti, by omega, by omega, by omega, by omega, by omega, by omega, by omega, by omega⟩ _ (.inr rfl) F6 (.tail _ (.tail _ (.tail _ (.tail _ (.head _))))) hW4 N6
          · intro h6 tk6 S1 st1 ops T q junk1 junk2 rN' oO' sO' dV' dN' t1' t2' fV' fN' Df Dl rowV3 rowN3 ns3 P hops hsub F6 hrow3 hl3 hI6 hd6 hdV6 hs6 N6 hW6
            have M6 := ((M4.set (Str.ofString "wanted") (some (.ref q)) (by decide)).set (Str.ofString "free") (some (.ref Df)) (by decide)).set (Str.ofString "longest") (some (.ref Dl)) (by decide)
            have hfr6 : (setN (Str.ofString "longest") (some (.ref Dl)) (setN (Str.ofString "free") (some (.ref Df)) (setN (Str.ofString "wanted") (some (.ref q)) m4))) (Str.ofString "fresh") = some .none := ne_set (ne_set (ne_set hfr4 (by decide)) (by decide)) (by decide)
            have hlap6 : (setN (Str.ofString "longest") (some (.ref Dl)) (setN (Str.ofString "free") (some (.ref Df)) (setN (Str.ofString "wanted") (some (.ref q)) m4))) (Str.ofString "lap") = some (.int (i : Nat) tlp) := ne_set (ne_set (ne_set hlap4 (by decide)) (by decide)) (by decide)
            have hrV : S1.rV = rV ++ ops.map fun q => Value.ref q.tp := P.rows
            rw [hrV] at N6
            have hst := P.play
            have p1 := P.low
            have p2 := P.lle
            have p3 := P.nops
            have p4 := P.nfs
            have p5 := congrArg List.length P.xs
            rw [List.length_map, List.length_map] at p5
            have p6 := P.core.spl_le
            dsimp only at p1 p2 p3 p4 p5
            refine tail_n (s := ⟨h6, _, _, tk6, _⟩) (rk := rk) (wk := wk) (pv := rV) (ops := ops) (low0 := low) (made := made) (fs := S1.fs) (own := S1.own) (i := i) (tlp := tlp) C O F6 hd8 hu8 M6 hlap6 hfr6 N6 hops hW6 (by omega) hd6 hs6 (by omega) P.core P.slots hr hw (by rw [hst]; exact P.vals) (by omega) (by omega) (by omega) P.deep p2 (by omega) rfl hIr hIt hrs hm (by omega) ?_
            intro h7 tk7 m' mO' mkvs' junk' rgO' wdO' rk' wk' F7 M7 hr7 hw7 hl7 hl8 hV7 hm7 hml7 hW7 hj7 N7
            exact h .next h7 tk7 m' ⟨S1.its, S1.own, S1.spl, S1.fs, ns3, rs, rk', wk', mkvs', S1.low, S1.lowest, made, t1', t2', tu, cN, _, rN', oO', dV', dN', mO', tV, tN, fV', fN', sO', rgO', wdO', o1', o2', rowV3, roV, lvN, rowN3, roN, tnn, tes, ti, M7, hW7.nil, P.core, P.slots, hV7, hI6, hd6, hdV6, hs6, hr7, hw7, ⟨_, ho1'⟩, ⟨_, ho2'⟩, hrow3, by omega, hIr, hIt, hrs, hm7, hti, by omega, by omega, by rw [List.length_append, List.length_map]; omega, by omega, by omega, by omega, by omega, by omega⟩ junk' (.inl rfl) F7 (hj7 _ (hsub _ (.tail _ (.tail _ (.tail _ (.tail _ (.head _))))))) hW7 N7
    · intro hnil h5 tk5 F5 N5
      replace F5 : Fr h₀ L h5 (setN (Str.ofString "fresh") (some .none) m3) := F5
      exact h .cont h5 tk5 _ ⟨its, own, spl, fs, ns2, rs, rk, wk, mkvs, low, lowest, made, tl, tw, tu, cN, rV, rN, oO, dV, dN, mO, tV, tN, fV, fN, sO, rgO, wdO, o1', o2', rowV2, roV, lvN, rowN2, roN, tnn, tes, ti, M4, wf, hC, hsl, V, hI, hd, hdV, hs, hr, hw, ⟨_, ho1'⟩, ⟨_, ho2'⟩, hrow2, by omega, hIr, hIt, hrs, hm, hti, by omega, by omega, by omega, by omega, by omega, by omega, by omega, by omega⟩ _ (.inr rfl) F5 (.tail _ (.tail _ (.tail _ (.tail _ (.head _))))) hW4 N5
end
end
end
example : True := by first | (w_top off; (fail_if_success walk1); trivial) | trivial
section
open PySem PySem.W PySem.Calls PyProof.Rows PySem.Spec
section
variable {w : World} {X : Fx} {i : Nat} {m : Str → Option Value}
theorem led_split {S : LS w X i m} {j : List (Addr × Obj)} {p : Addr × Obj} (h : p ∈ S.led j) : p ∈ S.led [] ∨ p ∈ j := by
  rcases core_mem' h with q | q
  · exact .inl (core_mem0 q)
  · rcases List.mem_append.mp (show p ∈ topL X S.rgO S.wdO (S.its.map fun i => Value.ref i.x) S.lvN S.rowV S.rowN S.o1 S.o2 S.roV S.roN S.tes S.tnn [] ++ (itL X.K.h S.its ++ j) from q) with q | q
    · exact .inl (core_mem (show p ∈ topL X S.rgO S.wdO (S.its.map fun i => Value.ref i.x) S.lvN S.rowV S.rowN S.o1 S.o2 S.roV S.roN S.tes S.tnn [] ++ (itL X.K.h S.its ++ []) from List.mem_append_left _ q))
    · rcases List.mem_append.mp q with q | q
      · exact .inl (core_mem (show p ∈ topL X S.rgO S.wdO (S.its.map fun i => Value.ref i.x) S.lvN S.rowV S.rowN S.o1 S.o2 S.roV S.roN S.tes S.tnn [] ++ (itL X.K.h S.its ++ []) from List.mem_append_right _ (List.mem_append_left _ q)))
      · exact .inr q
theorem led_join {S : LS w X i m} {j : List (Addr × Obj)} {p : Addr × Obj} (h : p ∈ S.led [] ∨ p ∈ j) : p ∈ S.led j := by
  rcases h with h | h
  · rcases core_mem' h with q | q
    · exact core_mem0 q
    · rcases List.mem_append.mp (show p ∈ topL X S.rgO S.wdO (S.its.map fun i => Value.ref i.x) S.lvN S.rowV S.rowN S.o1 S.o2 S.roV S.roN S.tes S.tnn [] ++ (itL X.K.h S.its ++ []) from q) with q | q
      · exact core_mem (show p ∈ topL X S.rgO S.wdO (S.its.map fun i => Value.ref i.x) S.lvN S.rowV S.rowN S.o1 S.o2 S.roV S.roN S.tes S.tnn [] ++ (itL X.K.h S.its ++ j) from List.mem_append_left _ q)
      · rw [List.append_nil] at q
        exact core_mem (show p ∈ topL X S.rgO S.wdO (S.its.map fun i => Value.ref i.x) S.lvN S.rowV S.rowN S.o1 S.o2 S.roV S.roN S.tes S.tnn [] ++ (itL X.K.h S.its ++ j) from List.mem_append_right _ (List.mem_append_left _ q))
  · exact core_mem (show p ∈ topL X S.rgO S.wdO (S.its.map fun i => Value.ref i.x) S.lvN S.rowV S.rowN S.o1 S.o2 S.roV S.roN S.tes S.tnn [] ++ (itL X.K.h S.its ++ j) from List.mem_append_right _ (List.mem_append_right _ h))
theorem led_ne {S : LS w X i m} {j : List (Addr × Obj)} {e : Addr × Obj} (O : X.Ok) (hj : e ∈ j) (W : Wf X S.its j) : ∀ p ∈ S.led [], p.1 ≠ e.1 := fun p hp => by
  obtain ⟨w1, w2⟩ := W.W.ex e hj
  rcases core_mem' hp with q | q
  · exact off_all O.O w1 _ (core_key q)
  · rcases List.mem_append.mp (show p ∈ topL X S.rgO S.wdO (S.its.map fun i => Value.ref i.x) S.lvN S.rowV S.rowN S.o1 S.o2 S.roV S.roN S.tes S.tnn [] ++ (itL X.K.h S.its ++ []) from q) with q | q
    · exact fun h => W.ap e hj _ (top_key q) h.symm
    · rw [List.append_nil] at q
      obtain ⟨i, hi, rfl | rfl⟩ := mem_itL q
      · exact fun h => (w2 i hi).1 h.symm
      · exact fun h => (w2 i hi).2 h.symm
section
variable {A₀ : Around} {E : Value → Shared → Prop} {s : Shared} {base h₀ : Heap} {fa : Addr} {cdv : Value} {outer : List Env} {L d u : Nat} {mg mb : Str → Option Value} {loose : List Str} {mean : ExcName → Option Value}
  {low lowest out : Int} {tl tw tu : Tok} {cN : Nat} {rV : List Value} {rN : Nat} {oO : Obj} {dV : List Value} {dN : Nat} {mO : Obj} {tV : List Value} {tN : Nat} {fV : List Value} {fN : Nat} {sO : Obj}
  {rgO wdO o1 o2 : Obj} {rowV roV : List Value} {lvN rowN roN tnn : Nat} {tes : List DictEntry} {junk : List (Addr × Obj)}
theorem loop_turn {Q : Flow → Shared → Prop} {t : Tok} {own : List (Addr × Obj)} {I : Nat} (C : CT w A₀ base h₀ (lawEnv L fa cdv) outer L d u mg mb loose mean) (O : X.Ok)  (hd8 : d < 700) (hu8 : u < 7000) (hH : ∀ j, 40 ≤ j → X.K.h j = HI w.params j) (hcl : (cellsFrom (L + 1) lawSc.names []).lookup (Str.ofString "order") = some X.c1) (hcl2 : (cellsFrom (L + 1) lawSc.names []).lookup (Str.ofString "kept") = some X.c2) (hi : i < 31)
    (S : LS w X i m) (hoff : ∀ p ∈ S.led [], p.1 ≠ I) (hown : ∀ p ∈ own, p.1 = I) (F : Fr h₀ L s.heap (fun y => if y = Str.ofString "lap" then some (.int (0 + (i : Nat)) t) else m y)) (N : News h₀ L s.heap (S.led [] ++ own)) (hio : ∃ o, (I, o) ∈ own) :
    wpAny (model pg w) (AA d u (lawEnv L fa cdv :: outer)) (execs lapB (lawEnv L fa cdv)) (StepG h₀ L I own (fun m' nw => ∃ S' : LS w X (i + 1) m', nw = S'.led []) s Q) E s := by
  obtain ⟨o, ho⟩ := hio
  have N1 : News h₀ L s.heap (S.led [(I, o)]) := News.sub N fun p hp => by
    rcases led_split hp with h | h
    · exact List.mem_append_left _ h
    · rw [List.mem_singleton.mp h]; exact List.mem_append_right _ ho
  have he : Wf X S.its [(I, o)] := S.wf.more (o := o) (D := I) hoff
  rw [Int.zero_add] at F
  refine wpAny_noRaise (lap_turn (e := (I, o)) C O hd8 hu8 hH hcl hcl2 hi S F N1 he ?_)
  intro f h' tk m' S' junk' hf F' hj W' N'
  have hne := led_ne O hj W'
  have hN : News h₀ L h' (S'.led [] ++ own) := fun p hp => by
    rcases List.mem_append.mp hp with h | h
    · exact N' p (led_join (.inl h))
    · have e1 := hown p h
      have e2 := (N p (List.mem_append_right _ h)).1
      have e3 := (N (I, o) (List.mem_append_right _ ho)).1
      have e4 : p = (I, o) := by
        obtain ⟨a, b⟩ := p
        dsimp only at e1 e2 e3
        subst e1
        rw [e3] at e2
        rw [Option.some.inj e2]
      rw [e4]
      exact N' _ (led_join (.inr hj))
  rcases hf with rfl | rfl
  · exact ⟨h', tk, m', S'.led [], rfl, F', hN, hne, S', rfl⟩
  · exact ⟨h', tk, m', S'.led [], rfl, F', hN, hne, S', rfl⟩
end
end
end
example : True := by first | (w_top off; (fail_if_success walk1); trivial) | trivial
section
open PySem PySem.W PySem.Calls PyProof.Rows PySem.Spec
section
abbrev Kst.with (K : Kst) (P : Params) : Kst := { K with h := fun i => if i < 40 then K.h i else HI P i }
theorem start_ls {w : World} {h₀ h : Heap} {L : Addr} {m : Str → Option Value} {K : Kst} (O : K.Ok) {tl tw tu tcn tmd tsp tdp : Tok} {cN tN n0 n3 tnn : Nat} {oO mO sO ow or w1 w2 : Obj} {V rv3 : List Value} {rts row tx tdx dr dw lv ti : Nat} {tes : List DictEntry} {ns rs : List Int} {v1 v2 : Option Value}
    (N : News h₀ L h ((lv, listOf #[] 0) :: (dw, ow) :: (dr, or) :: coreL K (cdE K (-16) tl (-16) tw 0 tu) cN [] 0 oO [] 0 mO V tN [] 0 sO [(rts, listOf V.toArray n0), (row, listOf rv3.toArray n3), (tx, instObj 423 tdx), (tdx, dictOf tes tnn), (L + 1 + 1, w2), (L + 1, w1)]))
    (F : Fr h₀ L h m) (q0 : 100 < L + 1) (q1 : @LT.lt Nat _ (L + 1 + 1) row) (q2 : row < tdx) (q3 : tdx < tx) (q4 : tx < K.cd) (q5 : K.mp < rts) (q6 : rts < K.rt) (q7 : K.sd < dr) (q8 : dr < dw) (q9 : dw < lv)
    (hd : oO.IsDictOf (intK w) []) (hm : mO.IsDictOf (intK w) []) (hs : sO.IsDictOf (intK w) []) (hr : or.IsDictOf (intK w) []) (hw : ow.IsDictOf (intK w) []) (hV : IntsAre V rs) (hrs : rs.length ≤ 2) (hrow : IntsAre rv3 ns) (hns : ns.length ≤ 900) (hti : getL (Str.ofString "integer") tes = some (some (.ref ti))) (hw1 : w1.data = .cell v1) (hw2 : w2.data = .cell v2)
    (a1 : m (Str.ofString "row") = some (.ref row)) (a2 : m (Str.ofString "types") = some (.ref tx)) (a3 : m (Str.ofString "coder") = some (.ref K.c)) (a4 : m (Str.ofString "roots") = some (.ref rts)) (a5 : m (Str.ofString "regs") = some (.ref dr)) (a6 : m (Str.ofString "words") = some (.ref dw)) (a7 : m (Str.ofString "live") = some (.ref lv))
    (a8 : m (Str.ofString "count") = some (.int K.cnt tcn)) (a9 : m (Str.ofString "made") = some (.int 0 tmd)) (a10 : m (Str.ofString "spot") = some (.int 0 tsp)) (a11 : m (Str.ofString "deepest") = some (.int (-16) tdp)) :
    ∃ X : Fx, X.Ok ∧ (cellsFrom (L + 1) lawSc.names []).lookup (Str.ofString "order") = some X.c1 ∧ (cellsFrom (L + 1) lawSc.names []).lookup (Str.ofString "kept") = some X.c2 ∧ (∀ j, 40 ≤ j → X.K.h j = HI w.params j) ∧ ∃ S : LS w X 0 m, News h₀ L h (S.led []) := by
  refine ⟨⟨K.with w.params, row, tx, tdx, rts, dr, dw, lv, L + 1, L + 1 + 1⟩, ⟨⟨O.o1, O.o2, O.o3, O.o4, O.o5, O.o6, O.o7, O.o8, O.o9, O.o10, O.o11, O.o12, O.o13, O.big, O.c0, O.c1⟩, q0, Nat.lt_succ_self _, q1, q2, q3, q4, q5, q6, q7, q8, q9⟩, by rfl, by rfl, fun j hj => if_neg (Nat.not_lt.mpr hj), ?_⟩
  refine ⟨⟨[], [], [], [], ns, rs, [], [], [], -16, -16, 0, tl, tw, tu, cN, [], 0, oO, [], 0, mO, V, tN, [], 0, sO, or, ow, w1, w2, rv3, V, 0, n3, n0, tnn, tes, ti,
    ⟨a1, a2, a3, a4, a5, a6, a7, ⟨_, a8⟩, ⟨_, a9⟩, ⟨_, a10⟩, ⟨_, a11⟩⟩, ⟨⟨(fun _ h => nomatch h), .nil, (fun _ h => nomatch h)⟩, (fun _ h => nomatch h), (fun _ h => nomatch h)⟩,
    ⟨.nil, .nil, .nil, (fun _ h => nomatch h), (fun _ h => nomatch h), .nil, (fun _ h => nomatch h), (fun _ h => nomatch h)⟩, ⟨rfl, by decide, by decide, (fun _ h => nomatch h), .nil⟩, ⟨(fun _ h => nomatch h), (fun _ h => nomatch h)⟩, .nil, hd, .nil, hs, hr, hw, ⟨_, hw1⟩, ⟨_, hw2⟩, hrow, hns, hV, hV, hrs, hm, hti, Nat.le_refl _, Nat.le_refl _, Nat.le_refl _, Nat.le_refl _, Nat.le_refl _, Nat.le_refl _, by decide, by decide⟩, ?_⟩
  refine News.sub N fun p hp => ?_
  rcases core_mem' hp with q | q
  · exact .tail _ (.tail _ (.tail _ (core_mem0 (show p ∈ coreL K (cdE K (-16) tl (-16) tw 0 tu) cN [] 0 oO [] 0 mO V tN [] 0 sO [] from q))))
  · simp only [itL, List.append_nil, List.mem_cons, List.not_mem_nil, or_false] at q
    rcases q with rfl | rfl | rfl | rfl | rfl | rfl | rfl | rfl | rfl
    · exact .tail _ (.tail _ (.head _))
    · exact .tail _ (.head _)
    · exact .head _
    · exact .tail _ (.tail _ (.tail _ (core_mem (.tail _ (.head _)))))
    · exact .tail _ (.tail _ (.tail _ (core_mem (.tail _ (.tail _ (.tail _ (.tail _ (.tail _ (.head _)))))))))
    · exact .tail _ (.tail _ (.tail _ (core_mem (.tail _ (.tail _ (.tail _ (.tail _ (.head _))))))))
    · exact .tail _ (.tail _ (.tail _ (core_mem (.head _))))
    · exact .tail _ (.tail _ (.tail _ (core_mem (.tail _ (.tail _ (.head _))))))
    · exact .tail _ (.tail _ (.tail _ (core_mem (.tail _ (.tail _ (.tail _ (.head _)))))))
end
end
example : True := by first | (w_top off; (fail_if_success walk1); trivial) | trivial
section
open PySem PySem.W PySem.Calls PyProof.Rows
section
theorem big_heap {P : Params} {h : Heap} (X : (Mine.hd.heap_1 P).In h) : 100 < h.objs.size := by
  have hl : ∃ o, List.lookup 448 (Mine.hd.heap_1 P) = some o := ⟨_, by rfl⟩
  obtain ⟨o, e⟩ := hl
  have q : @LT.lt Nat _ 448 h.objs.size := Heap.lt_size (X 448 o e)
  omega
theorem ints_take2 {a b : Int} {t u : Tok} : ∀ k : Nat, IntsAre (List.take k [Value.int a t, Value.int b u]) (List.take k [a, b])
  | 0 => .nil
  | 1 => .cons _ _ .nil
  | _ + 2 => by
    simp only [List.take_succ_cons, List.take_nil]
    exact .cons _ _ (.cons _ _ .nil)
end
end
example : True := by
  k_with_none
  (k_with "omega" => first | (with_reducible assumption) | (with_reducible exact Nat.le_of_lt (by assumption)) | (with_reducible exact Nat.ne_of_lt (by assumption)) | (with_reducible exact Nat.ne_of_gt (by assumption)) | exact lt_ble (by with_reducible assumption) rfl | exact le_ble (by with_reducible assumption) rfl | exact le_ble (Nat.le_of_lt (by with_reducible assumption)) rfl | exact le_lt (by with_reducible assumption) rfl | exact lt_add 1 (by with_reducible assumption) rfl | exact Nat.le_of_ble_eq_true rfl)
  (k_with "k_mem" => first | exact List.Mem.head _ | with_reducible assumption | (refine' List.Mem.tail _ ?_; k_mem) | assumption)
  (k_with "k_enter" => first | (refine' code_def ?k1zw ?k2zw ?k3zw ?k4zw ?k5zw ?kAzw ?kFzw ?kKzw ?k6zw ?k7zw ?k8zw ?k9zw ?kBzw ?_ ?c2zw ?c3zw ?c4zw ?c5zw; (case kAzw => exact rfl); (case kFzw => first | exact rfl | assumption); (case kKzw => first | exact rfl | assumption); (case k1zw => k_asm); (case k2zw => k_asm); (case k3zw => k_asm); (case k4zw => k_asm); (case k5zw => k_asm); (case k6zw => k_is); (case k7zw => k_is); (case k8zw => k_room); (case k9zw => first | exact BindsTo.of_eq rfl | exact binds_K (by k_in) rfl (by k_is) rfl rfl rfl | fail "k_enter: no rule for these arguments"); (case c5zw => decide); (case kBzw => exact locs rfl); (case c2zw => exact rfl); (case c3zw => exact rfl); (case c4zw => exact rfl); k_whole; intro g'zw' L'zw' h'zw' FG'zw' F'zw' N'zw' B'zw' X'zw' T'zw'; (try dsimp only); (try k_lift B'zw'); (try k_fold)) | (refine' code_defC ?k1zw ?k2zw ?k3zw ?k4zw ?k5zw ?kAzw ?kFzw ?kKzw ?k6zw ?k7zw ?k8zw ?k9zw ?kBzw ?kDzw ?_ ?c2zw ?c3zw ?c4zw; (case kAzw => exact rfl); (case kFzw => first | exact rfl | assumption); (case kKzw => first | exact rfl | assumption); (case k1zw => k_asm); (case k2zw => k_asm); (case k3zw => k_asm); (case k4zw => k_asm); (case k5zw => k_asm); (case k6zw => k_is); (case k7zw => k_is); (case k8zw => k_room); (case k9zw => first | exact BindsTo.of_eq rfl | exact binds_K (by k_in) rfl (by k_is) rfl rfl rfl | fail "k_enter: no rule for these arguments"); (case kBzw => exact rfl); (case kDzw => decide +kernel); (case c2zw => exact rfl); (case c3zw => exact rfl); (case c4zw => exact rfl); k_whole; intro g'zw' L'zw' h'zw' tk'zw' cells'zw' FG'zw' F'zw' N'zw' Y'zw' B'zw' X'zw' T'zw' l1zw'; (try k_lt l1zw'); k_cells Y'zw'; (try simp only [List.cons_append, List.nil_append] at N'zw'); (try dsimp only); (try k_lift B'zw'); (try k_fold)))
  (k_with "k_room" => ((try simp only [depth_under_make, depth_under_kw, depth_in1, depth_deeper, depth_caller]); (have hrl : recursionLimit = 1000 := rfl); omega))
  (k_with "k_ne" => first | with_reducible assumption | (with_reducible exact Ne.symm (by assumption)) | (refine neN ?_; (try dsimp only); omega))
  (k_with "k_all" => first | with_reducible assumption | exact offAll (by assumption) (by simp [Kst.all]) (by (try dsimp only); omega))
  (k_with "k_put" => (refine' PutR.eq ?zzzw; (case zzzw => repeat (first | exact PutR.head (by rfl) | apply PutR.tail (by rfl)))))
  (k_with "=setAttr ref" => (k_here; k_dflt (refine' set_dict ?k1zw ?k2zw ?k3zw ?k4zw ?k5zw ?k6zw ?k7zw ?k8zw ?k9zw ?k10zw ?k11zw ?k12zw ?k13zw ?_; (case k1zw => k_asm); (case k2zw => k_asm); (case k3zw => k_asm); (case k4zw => k_inst); (case k5zw => exact rfl); (case k6zw => k_is); (case k7zw => k_is); (case k8zw => k_is); (case k9zw => k_is); (case k10zw => k_get); (case k11zw => k_put); (case k12zw => k_upd); (case k13zw => first | exact Nat.le_of_ble_eq_true rfl | ((try simp only [List.length_cons]); omega)); k_whole); intro h'zw' F'zw' N'zw'; (try dsimp only at N'zw'); (try k_sweep)))
  (k_with "=call builtin:len" => (k_here; (with_reducible show wpAny _ _ (call (Value.builtin "len") [Value.ref _]) _ _ _); k_dflt (refine len_L (by k_asm) (by k_mem) (by (try simp only [List.length_append, List.length_cons, List.length_nil]); rfl) (by omega) ?_)))
  (k_with "=call builtin:list.append" => (k_here; (with_reducible show wpAny _ _ (call (Value.builtin _) [Value.ref _, _]) _ _ _); k_dflt (refine' append_L ?k1zw ?k2zw ?k3zw ?zzw ?_; (case k1zw => k_asm); (case k2zw => k_asm); (case k3zw => k_upd); (case zzw => ((try simp only [List.length_append, List.length_cons, List.length_nil]); omega)); k_whole); intro h'zw' F'zw' N'zw'; (try dsimp only at N'zw'); (try k_sweep)))
  (k_with "=call builtin:list.pop" => (k_here; (with_reducible show wpAny _ _ (call (Value.builtin _) [Value.ref _]) _ _ _); k_dflt (refine' pop_last ?k1zw ?k2zw ?k3zw ?zzw ?_; (case k1zw => k_asm); (case k2zw => k_asm); (case k3zw => k_upd); (case zzw => ((try simp only [List.length_append, List.length_cons, List.length_nil]); omega)); k_whole); intro h'zw' F'zw' N'zw'; (try dsimp only at N'zw'); (try k_sweep)))
  (k_with "=call builtin:list.remove" => (k_here; (with_reducible show wpAny _ _ (call (Value.builtin _) [Value.ref _, Value.int _ _]) _ _ _); k_dflt (refine' remove_L ?k1zw ?k2zw ?hazw ?hbzw ?hkzw ?k3zw ?zzw ?_; (case k1zw => k_asm); (case k2zw => k_asm); (case k3zw => k_upd); (case hazw => k_asm); (case hbzw => k_asm); (case hkzw => k_asm); (case zzw => omega); k_whole); intro h'zw' F'zw' N'zw'; (try dsimp only at N'zw'); (try k_sweep)))
  (k_with "=getMethod ref" => (k_here; (with_reducible show wpAny _ _ (getMethod (Value.ref _) (PySem.Str.ofString "remove") _) _ _ _); k_dflt (refine' kl_method ?Nzw ?mzw PySem.F.slot_list_remove PySem.F.type_list_remove ?_; (case Nzw => k_asm); (case mzw => k_mem))))
  (k_with "=compareOp NotIn int ref" => (k_here; k_dflt (refine kdg_notin (knd := intKind _ _) (by k_asm) (by k_mem) (by k_asm) (by first | exact nm_ow (by assumption) | exact nm_sd (by assumption) | exact nm_mp (by assumption) | exact notmod (by omega)) (intKind_is _ _ _ _) _ (by first | assumption | rfl) ?_); (try dsimp only [Bool.not_true, Bool.not_false])))
  (k_with "=compareOp In int ref" => (k_here; k_dflt (refine kda_in (knd := intKind _ _) (by k_asm) (by k_mem) (by k_asm) (by first | exact nm_ow (by assumption) | exact nm_sd (by assumption) | exact nm_mp (by assumption) | exact notmod (by omega)) (intKind_is _ _ _ _) _ (by first | assumption | rfl) ?_)))
  (k_with "=subscriptTail" => (k_here; (with_reducible show wpAny _ _ (subscriptTail _ _ (Value.ref _) (Value.int _ _)) _ _ _); k_dflt (refine kdt_tail (knd := intKind _ _) (by k_asm) (by k_mem) (by k_asm) (kdt_getItem (knd := intKind _ _) (by k_asm) (by k_mem) (by k_asm) (intKind_is _ _ _ _) (by assumption) ?_))))
  (k_with "=subscriptTail Attribute Name Name ref int" => (k_here; k_dflt (refine kdt_tail (knd := intKind _ _) (by k_asm) (by k_mem) (by k_asm) (kdt_getItem (knd := intKind _ _) (by k_asm) (by k_mem) (by k_asm) (intKind_is _ _ _ _) (by assumption) ?_))))
  (k_with "=setItem ref int" => (k_here; k_dflt (refine' kda_set (knd := intKind _ _) ?Fzw ?Nzw ?Uzw ?dzw (intKind_is _ _ _ _) ?zzw ?_; (case Fzw => k_asm); (case Nzw => k_asm); (case Uzw => k_updF); (case dzw => k_asm); (case zzw => exact szOk (by omega))); intro h'zw' o'zw' F'zw' N'zw' hd'zw'; (try dsimp only at N'zw'); (try k_sweep)))
  (k_with "=delItem ref int" => (k_here; k_dflt (refine' kob_del (knd := intKind _ _) ?Fzw ?Nzw ?Uzw ?dzw (intKind_is _ _ _ _) ?lzw ?zzw ?_; (case Fzw => k_asm); (case Nzw => k_asm); (case Uzw => k_updF); (case dzw => k_asm); (case lzw => first | assumption | (simp only [*]; done)); (case zzw => exact szOk (by omega))); intro h'zw' o'zw' F'zw' N'zw' hd'zw'; (try dsimp only at N'zw'); (try k_sweep)))
  (k_with "=getMethod ref" => (k_here; (with_reducible show wpAny _ _ (getMethod (Value.ref _) (PySem.Str.ofString "append") _) _ _ _); k_dflt (refine' kl_method ?Nzw ?mzw PySem.F.slot_list_append PySem.F.type_list_append ?_; (case Nzw => k_asm); (case mzw => k_mem))))
  (k_with "=call ref" => (k_here; k_dflt (refine' call_cls ?k1zw ?k2zw ?k3zw ?k4zw ?k5zw ?k6zw ?_; (case k1zw => k_asm); (case k2zw => k_asm); (case k3zw => k_asm); (case k4zw => k_is); (case k5zw => k_is); (case k6zw => k_is); k_whole; intro x'zw' d'zw' h'zw' F'zw' N'zw' l1zw' l2zw'; (try k_lt l1zw'); (try k_lt2 l2zw'); (try k_sweep); k_enter)))
  (k_with "=call ref" => (k_here; k_dflt (refine wpAny_call ?_; k_enter)))
  (k_with "=getMethod ref" => (k_here; (with_reducible show wpAny _ _ (getMethod (Value.ref _) (Str.ofString "get") _) _ _ _); k_dflt (refine kdg_method (knd := PySem.intKind _ _) (by k_asm) (by k_mem) (by k_asm) ?_)))
  (k_with "=call builtin:dict.get" => (k_here; (with_reducible show wpAny _ _ (call (Value.builtin "dict.get") [Value.ref _, Value.int _ _, _]) _ _ _); k_dflt (refine kdg_get2 (knd := PySem.intKind _ _) (by k_asm) (by k_mem) (by k_asm) (by first | exact nm_ow (by assumption) | exact nm_sd (by assumption) | exact nm_mp (by assumption) | exact notmod (by omega)) (intKind_is _ _ _ _) _ rfl ?_)))
  (k_with "tb_rel" => exact ⟨by assumption, by assumption, by assumption, by first | exact rfl | assumption, by first | exact rfl | assumption, by first | exact lt_add 1 hd9 rfl | exact lt_add 2 hd9 rfl | exact lt_add 3 hd9 rfl | exact lt_add 4 hd9 rfl | exact lt_add 1 hd8 rfl | exact lt_add 2 hd8 rfl | exact lt_add 3 hd8 rfl | exact lt_add 4 hd8 rfl | ((try simp only [depth_under_make, depth_under_kw, depth_in1, depth_deeper, depth_caller]); omega) | decide, by first | exact lt_add 1 hu9 rfl | exact lt_add 2 hu9 rfl | exact lt_add 3 hu9 rfl | exact lt_add 4 hu9 rfl | exact lt_add 5 hu9 rfl | exact lt_add 6 hu9 rfl | exact lt_add 1 hu8 rfl | exact lt_add 2 hu8 rfl | exact lt_add 3 hu8 rfl | exact lt_add 4 hu8 rfl | exact lt_add 5 hu8 rfl | exact lt_add 6 hu8 rfl | ((try simp only [units_in1, units_deeper, units_under_make, units_caller, Around.deeper_units]); omega) | decide⟩)
  (k_with "k_upd" => first | exact upd_cd (by assumption) (by k_all) | exact upd_rw (by assumption) (by k_all) | exact upd_od (by assumption) (by k_all) | exact upd_ft (by assumption) (by k_all) | (refine' upd_core ?azw ?bzw; (case azw => exact off_all (by assumption) (Or.inr (by with_reducible assumption))); (case bzw => k_upd)))
  (k_with "k_updF" => first | exact upd_ow (by assumption) (by k_all) | exact upd_mp (by assumption) (by k_all) | exact upd_sd (by assumption) (by k_all))
  (k_with "k_room" => first | exact room 0 (a := 900) (by with_reducible assumption) rfl | exact room 1 (a := 900) (by with_reducible assumption) rfl | exact room 2 (a := 900) (by with_reducible assumption) rfl | exact room 3 (a := 900) (by with_reducible assumption) rfl | exact room 4 (a := 900) (by with_reducible assumption) rfl | exact room 5 (a := 900) (by with_reducible assumption) rfl | exact room 6 (a := 900) (by with_reducible assumption) rfl)
  (k_with "k_all" => (with_reducible refine List.forall_mem_cons.mpr ⟨Or.inr (by with_reducible assumption), ?_⟩; k_all))
  (k_with "kst" => first | (k_unfold; (try dsimp only)) | (k_end; wrow_close) | walk1 | (dsimp only; walk1) | (leave1; walk_say "STEP leave1"; try dsimp only) | fail "no step")
  trivial
example : True := by first | (w_top off; (fail_if_success walk1); trivial) | trivial
section
open PySem PySem.W PySem.Calls PyProof.Rows
section
example : True := by
  (k_with "tb_rel2" => exact ⟨by assumption, by assumption, by assumption, by first | exact rfl | assumption, by first | exact rfl | assumption, by ((try simp only [depth_under_make, depth_under_kw, depth_in1, depth_deeper, depth_caller]); omega), by ((try simp only [units_in1, units_deeper, units_under_make, units_caller]); omega)⟩)
  (k_with "=eval Dict nil nil" => (k_here; k_dflt (refine' newDict_K ?k1zw ?k2zw ?k3zw ?_; (case k1zw => k_asm); (case k2zw => k_asm); (case k3zw => exact TopRead.nolimit (by k_asm)); k_whole); intro d'zw' h'zw' o'zw' F'zw' N'zw' l1zw' lo'zw' hs'zw' fs'zw' hi'zw' fi'zw'; (try k_lt l1zw'); (try k_sweep)))
  trivial
theorem prep1 {h₀ h : Heap} {L : Addr} {a0 a1 a2 a3 a4 a5 a6 a7 a8 a9 a10 a11 a12 a13 a14 a15 a16 row c1 c2 : Addr × Obj} (N : News h₀ L h [a0, a1, a2, a3, a4, a5, a6, a7, a8, a9, a10, a11, a12, a13, a14, a15, a16, row, c1, c2]) : News h₀ L h [row, a0, a1, a2, a3, a4, a5, a6, a7, a8, a9, a10, a11, a12, a13, a14, a15, a16, c1, c2] := by
  refine News.sub N ?_
  refine List.forall_mem_cons.2 ⟨.tail _ (.tail _ (.tail _ (.tail _ (.tail _ (.tail _ (.tail _ (.tail _ (.tail _ (.tail _ (.tail _ (.tail _ (.tail _ (.tail _ (.tail _ (.tail _ (.tail _ (.head _))))))))))))))))), ?_⟩
  refine List.forall_mem_cons.2 ⟨.head _, ?_⟩
  refine List.forall_mem_cons.2 ⟨.tail _ (.head _), ?_⟩
  refine List.forall_mem_cons.2 ⟨.tail _ (.tail _ (.head _)), ?_⟩
  refine List.forall_mem_cons.2 ⟨.tail _ (.tail _ (.tail _ (.head _))), ?_⟩
  refine List.forall_mem_cons.2 ⟨.tail _ (.tail _ (.tail _ (.tail _ (.head _)))), ?_⟩
  refine List.forall_mem_cons.2 ⟨.tail _ (.tail _ (.tail _ (.tail _ (.tail _ (.head _))))), ?_⟩
  refine List.forall_mem_cons.2 ⟨.tail _ (.tail _ (.tail _ (.tail _ (.tail _ (.tail _ (.head _)))))), ?_⟩
  refine List.forall_mem_cons.2 ⟨.tail _ (.tail _ (.tail _ (.tail _ (.tail _ (.tail _ (.tail _ (.head _))))))), ?_⟩
  refine List.forall_mem_cons.2 ⟨.tail _ (.tail _ (.tail _ (.tail _ (.tail _ (.tail _ (.tail _ (.tail _ (.head _)))))))), ?_⟩
  refine List.forall_mem_cons.2 ⟨.tail _ (.tail _ (.tail _ (.tail _ (.tail _ (.tail _ (.tail _ (.tail _ (.tail _ (.head _))))))))), ?_⟩
  refine List.forall_mem_cons.2 ⟨.tail _ (.tail _ (.tail _ (.tail _ (.tail _ (.tail _ (.tail _ (.tail _ (.tail _ (.tail _ (.head _)))))))))), ?_⟩
  refine List.forall_mem_cons.2 ⟨.tail _ (.tail _ (.tail _ (.tail _ (.tail _ (.tail _ (.tail _ (.tail _ (.tail _ (.tail _ (.tail _ (.head _))))))))))), ?_⟩
  refine List.forall_mem_cons.2 ⟨.tail _ (.tail _ (.tail _ (.tail _ (.tail _ (.tail _ (.tail _ (.tail _ (.tail _ (.tail _ (.tail _ (.tail _ (.head _)))))))))))), ?_⟩
  refine List.forall_mem_cons.2 ⟨.tail _ (.tail _ (.tail _ (.tail _ (.tail _ (.tail _ (.tail _ (.tail _ (.tail _ (.tail _ (.tail _ (.tail _ (.tail _ (.head _))))))))))))), ?_⟩
  refine List.forall_mem_cons.2 ⟨.tail _ (.tail _ (.tail _ (.tail _ (.tail _ (.tail _ (.tail _ (.tail _ (.tail _ (.tail _ (.tail _ (.tail _ (.tail _ (.tail _ (.head _)))))))))))))), ?_⟩
  refine List.forall_mem_cons.2 ⟨.tail _ (.tail _ (.tail _ (.tail _ (.tail _ (.tail _ (.tail _ (.tail _ (.tail _ (.tail _ (.tail _ (.tail _ (.tail _ (.tail _ (.tail _ (.head _))))))))))))))), ?_⟩
  refine List.forall_mem_cons.2 ⟨.tail _ (.tail _ (.tail _ (.tail _ (.tail _ (.tail _ (.tail _ (.tail _ (.tail _ (.tail _ (.tail _ (.tail _ (.tail _ (.tail _ (.tail _ (.tail _ (.head _)))))))))))))))), ?_⟩
  refine List.forall_mem_cons.2 ⟨.tail _ (.tail _ (.tail _ (.tail _ (.tail _ (.tail _ (.tail _ (.tail _ (.tail _ (.tail _ (.tail _ (.tail _ (.tail _ (.tail _ (.tail _ (.tail _ (.tail _ (.tail _ (.head _)))))))))))))))))), ?_⟩
  refine List.forall_mem_cons.2 ⟨.tail _ (.tail _ (.tail _ (.tail _ (.tail _ (.tail _ (.tail _ (.tail _ (.tail _ (.tail _ (.tail _ (.tail _ (.tail _ (.tail _ (.tail _ (.tail _ (.tail _ (.tail _ (.tail _ (.head _))))))))))))))))))), ?_⟩
  intro p hp
  cases hp
theorem prep2 {h₀ h : Heap} {L : Addr} {rts row a0 a1 a2 a3 a4 a5 a6 a7 a8 a9 a10 a11 a12 a13 a14 tx tdx c1 c2 : Addr × Obj} (N : News h₀ L h [rts, row, a0, a1, a2, a3, a4, a5, a6, a7, a8, a9, a10, a11, a12, a13, a14, tx, tdx, c1, c2]) : News h₀ L h [a1, a2, a3, a4, a5, a6, a7, a8, a9, a10, a11, a12, a13, a14, rts, row, tx, tdx, c1, c2] := by
  refine News.sub N ?_
  refine List.forall_mem_cons.2 ⟨.tail _ (.tail _ (.tail _ (.head _))), ?_⟩
  refine List.forall_mem_cons.2 ⟨.tail _ (.tail _ (.tail _ (.tail _ (.head _)))), ?_⟩
  refine List.forall_mem_cons.2 ⟨.tail _ (.tail _ (.tail _ (.tail _ (.tail _ (.head _))))), ?_⟩
  refine List.forall_mem_cons.2 ⟨.tail _ (.tail _ (.tail _ (.tail _ (.tail _ (.tail _ (.head _)))))), ?_⟩
  refine List.forall_mem_cons.2 ⟨.tail _ (.tail _ (.tail _ (.tail _ (.tail _ (.tail _ (.tail _ (.head _))))))), ?_⟩
  refine List.forall_mem_cons.2 ⟨.tail _ (.tail _ (.tail _ (.tail _ (.tail _ (.tail _ (.tail _ (.tail _ (.head _)))))))), ?_⟩
  refine List.forall_mem_cons.2 ⟨.tail _ (.tail _ (.tail _ (.tail _ (.tail _ (.tail _ (.tail _ (.tail _ (.tail _ (.head _))))))))), ?_⟩
  refine List.forall_mem_cons.2 ⟨.tail _ (.tail _ (.tail _ (.tail _ (.tail _ (.tail _ (.tail _ (.tail _ (.tail _ (.tail _ (.head _)))))))))), ?_⟩
  refine List.forall_mem_cons.2 ⟨.tail _ (.tail _ (.tail _ (.tail _ (.tail _ (.tail _ (.tail _ (.tail _ (.tail _ (.tail _ (.tail _ (.head _))))))))))), ?_⟩
  refine List.forall_mem_cons.2 ⟨.tail _ (.tail _ (.tail _ (.tail _ (.tail _ (.tail _ (.tail _ (.tail _ (.tail _ (.tail _ (.tail _ (.tail _ (.head _)))))))))))), ?_⟩
  refine List.forall_mem_cons.2 ⟨.tail _ (.tail _ (.tail _ (.tail _ (.tail _ (.tail _ (.tail _ (.tail _ (.tail _ (.tail _ (.tail _ (.tail _ (.tail _ (.head _))))))))))))), ?_⟩
  refine List.forall_mem_cons.2 ⟨.tail _ (.tail _ (.tail _ (.tail _ (.tail _ (.tail _ (.tail _ (.tail _ (.tail _ (.tail _ (.tail _ (.tail _ (.tail _ (.tail _ (.head _)))))))))))))), ?_⟩
  refine List.forall_mem_cons.2 ⟨.tail _ (.tail _ (.tail _ (.tail _ (.tail _ (.tail _ (.tail _ (.tail _ (.tail _ (.tail _ (.tail _ (.tail _ (.tail _ (.tail _ (.tail _ (.head _))))))))))))))), ?_⟩
  refine List.forall_mem_cons.2 ⟨.tail _ (.tail _ (.tail _ (.tail _ (.tail _ (.tail _ (.tail _ (.tail _ (.tail _ (.tail _ (.tail _ (.tail _ (.tail _ (.tail _ (.tail _ (.tail _ (.head _)))))))))))))))), ?_⟩
  refine List.forall_mem_cons.2 ⟨.head _, ?_⟩
  refine List.forall_mem_cons.2 ⟨.tail _ (.head _), ?_⟩
  refine List.forall_mem_cons.2 ⟨.tail _ (.tail _ (.tail _ (.tail _ (.tail _ (.tail _ (.tail _ (.tail _ (.tail _ (.tail _ (.tail _ (.tail _ (.tail _ (.tail _ (.tail _ (.tail _ (.tail _ (.head _))))))))))))))))), ?_⟩
  refine List.forall_mem_cons.2 ⟨.tail _ (.tail _ (.tail _ (.tail _ (.tail _ (.tail _ (.tail _ (.tail _ (.tail _ (.tail _ (.tail _ (.tail _ (.tail _ (.tail _ (.tail _ (.tail _ (.tail _ (.tail _ (.head _)))))))))))))))))), ?_⟩
  refine List.forall_mem_cons.2 ⟨.tail _ (.tail _ (.tail _ (.tail _ (.tail _ (.tail _ (.tail _ (.tail _ (.tail _ (.tail _ (.tail _ (.tail _ (.tail _ (.tail _ (.tail _ (.tail _ (.tail _ (.tail _ (.tail _ (.head _))))))))))))))))))), ?_⟩
  refine List.forall_mem_cons.2 ⟨.tail _ (.tail _ (.tail _ (.tail _ (.tail _ (.tail _ (.tail _ (.tail _ (.tail _ (.tail _ (.tail _ (.tail _ (.tail _ (.tail _ (.tail _ (.tail _ (.tail _ (.tail _ (.tail _ (.tail _ (.head _)))))))))))))))))))), ?_⟩
  intro p hp
  cases hp
example : True := by
  (k_with "stopP11" => first | (with_reducible show wpAny _ _ (call (Value.ref 434) _ _) _ _ _) | (with_reducible show wpAny _ _ (call (Value.ref 441) _ _) _ _ _) | (with_reducible show wpAny _ _ (call (Value.ref 423) _ _) _ _ _) | (with_reducible show wpAny _ _ (call (Value.ref 351) _ _) _ _ _) | (with_reducible show wpAny _ _ (call (Value.ref 234) _ _) _ _ _) | (with_reducible show wpAny _ _ (subscriptTail _ _ _ _) _ _ _) | (with_reducible show wpAny _ _ (call (Value.type "range") _ _) _ _ _) | (with_reducible show wpAny _ _ (pyIter (Value.ref _)) _ _ _) | (with_reducible show wpAny _ _ (exec (Stmt.For _ _ _ _ _) _) _ _ _))
  trivial
set_option maxRecDepth 100000 in
set_option maxHeartbeats 16000000 in
theorem main : PySem.Challenge.rw_pb0351_01.Holds := hd (by
  k_go0
  (all_goals try k_fold)
  (repeat' ((fail_if_success k_extra "stopP11"); k_extra "kst"))
  (try dsimp only [List.cons_append, List.nil_append])
  rename Heap.IsList _ _ _ => hsc
  rename IntsAre _ _ => hI
  rename ¬ ((63 : Nat) : Int) < _ => h63
  refine row_spec (vs := _) (ns := _) (by (first | k_extra "tb_rel2" | k_extra "tb_rel")) (by assumption) (by assumption) hsc hI (by omega) ?_
  rename Fr _ _ _ _ => FX
  rename News _ _ _ _ => NX
  intro h1 tk1 row rv rn n F1 N1 lrow hrv hrn
  clear FX NX
  (repeat' ((fail_if_success k_extra "stopP11"); k_extra "kst"))
  (try dsimp only [List.cons_append, List.nil_append])
  refine next_spec (by (first | k_extra "tb_rel2" | k_extra "tb_rel")) (by assumption) (by assumption) (fun p hp => neN (Nat.ne_of_lt (lrow p hp))) hrv (by omega) ?_
  rename Fr _ _ _ _ => FX
  rename News _ _ _ _ => NX
  intro h2 tk2 k1 tc1 rv2 n2 rn2 F2 hrv2 hrn2 N2
  clear FX NX
  have g0 : 0 ≤ k1.fmod 4 := Int.fmod_nonneg_of_pos _ (by decide)
  have g1 : k1.fmod 4 < 4 := Int.fmod_lt_of_pos _ (by decide)
  (repeat' ((fail_if_success k_extra "stopP11"); k_extra "kst"))
  (try dsimp only [List.cons_append, List.nil_append])
  rename Fr _ _ _ _ => FX
  rename News _ _ _ _ => NX
  refine types_spec (by (first | k_extra "tb_rel2" | k_extra "tb_rel")) FX NX (by k_room) (by ((try simp only [units_in1, units_deeper, units_under_make, units_caller]); omega)) ?_
  intro h3 tk3 tx tdx ti tes tnn F3 N3 hti ltx ltx2
  clear FX NX
  (repeat' ((fail_if_success k_extra "stopP11"); k_extra "kst"))
  (try dsimp only [List.cons_append, List.nil_append])
  rename Fr _ _ _ _ => FX
  rename News _ _ _ _ => NX
  refine coder_spec (by (first | k_extra "tb_rel2" | k_extra "tb_rel")) FX NX (by k_room) (by ((try simp only [units_in1, units_deeper, units_under_make, units_caller]); omega)) (by omega) ⟨_, .tail _ (.tail _ (.head _)), ?hb⟩ ?_
  case hb =>
    rename Frag.In _ _ => XH
    have e1 : @LT.lt Nat _ 100 _ := big_heap XH
    have e3 : @LT.lt Nat _ _ _ := lrow _ (.tail _ (.head _))
    exact Nat.lt_trans (Nat.lt_succ_of_lt (Nat.lt_of_lt_of_le e1 FX.above)) e3
  intro h4 tk4 K cN tl tw tu oO mO sO O hcnt hoO hmO hsO lK F4 N4
  have hO := kOk_facts O
  have q1 : @LT.lt Nat _ row tdx := ltx _ (.head _)
  have q2 : @LT.lt Nat _ tdx K.cd := lK _ (.tail _ (.head _))
  have q3 : @LT.lt Nat _ tx K.cd := lK _ (.head _)
  have q4 := lrow _ (List.Mem.head _)
  have q5 := lrow _ (List.Mem.tail _ (List.Mem.head _))
  dsimp only at q4 q5
  replace q4 : @LT.lt Nat _ _ _ := q4
  replace q5 : @LT.lt Nat _ _ _ := q5
  clear FX NX
  (repeat' ((fail_if_success k_extra "stopP11"); k_extra "kst"))
  (try dsimp only [List.cons_append, List.nil_append])
  rename Fr _ _ _ _ => FX
  rename News _ _ _ _ => NX
  refine next_spec (by (first | k_extra "tb_rel2" | k_extra "tb_rel")) FX (prep1 NX) (by intro p hp; rcases List.mem_cons.mp hp with rfl | hp; (exact neN (by dsimp only; omega)); rcases core_mem' hp with q | q; (exact neN (Nat.ne_of_gt (Nat.lt_of_lt_of_le (Nat.lt_trans q1 q2) (cd_le O _ (core_key q))))); (simp only [List.mem_cons, List.not_mem_nil, or_false] at q; rcases q with rfl | rfl | rfl | rfl <;> exact neN (by dsimp only; omega))) hrv2 (by omega) ?_
  intro h5 tk5 k2 tc2 rv3 n3 rn3 F5 hrv3 hrn3 N5
  clear FX NX
  have f0 : 0 ≤ k2.fmod 3 := Int.fmod_nonneg_of_pos _ (by decide)
  have f1 : k2.fmod 3 < 3 := Int.fmod_lt_of_pos _ (by decide)
  (repeat' ((fail_if_success k_extra "stopP11"); k_extra "kst"))
  (try dsimp only [List.cons_append, List.nil_append])
  rename Fr _ _ _ _ => FX
  rename News _ _ _ _ => NX
  refine slice_temp (s := ⟨h5, _, _, _, _⟩) FX NX (News.isList NX (List.Mem.tail _ (List.Mem.head _))) IsPart.none (IsPart.int _ _) ?_ (by with_unfolding_all rfl) (szOk (by (try simp only [List.size_toArray, List.length_cons, List.length_nil]); omega))
  intro rts h6 F6 N6 l6
  rw [pick_upto _ f0] at N6
  k_lt l6
  clear FX NX
  (repeat' ((fail_if_success k_extra "stopP11"); k_extra "kst"))
  (try dsimp only [List.cons_append, List.nil_append])
  rename Fr _ _ _ _ => FX
  rename News _ _ _ _ => NX
  refine enter_spec (by (first | k_extra "tb_rel2" | k_extra "tb_rel")) FX O (prep2 NX) (by k_room) (by ((try simp only [units_in1, units_deeper, units_under_make, units_caller]); omega)) (by intro p hp; simp only [List.mem_cons, List.not_mem_nil, or_false] at hp; rcases hp with rfl | rfl | rfl | rfl | rfl | rfl <;> first | exact off_lt O (by dsimp only; omega) | exact .inr (by dsimp only; omega)) (.head _) (by rw [List.length_take]; simp only [List.length_cons, List.length_nil]; omega) ?_
  intro h7 tk7 K' cN' tl' tw' tu' sO' tN' O' ec ecd emp ecnt hsO' lK' F7 N7
  clear FX NX
  (repeat' ((fail_if_success k_extra "stopP11"); k_extra "kst"))
  (try dsimp only [List.cons_append, List.nil_append])
  rename Fr _ _ _ _ => FX
  rename News _ _ _ _ => NX
  rename Frag.In _ _ => XH
  have hbig := big_heap XH
  have hL := FX.above
  have hlw : @LT.lt Nat _ _ _ := lK' _ (.head _)
  have hzV : (List.take (k2.fmod 3).toNat [(-12 : Int), 4]).length ≤ 2 := by rw [List.length_take]; simp only [List.length_cons, List.length_nil]; omega
  have hs' := start_ls O' NX FX (Nat.lt_succ_of_lt (Nat.lt_of_lt_of_le hbig hL)) (by omega) (by omega) (by omega) (by omega) (by omega) (by omega) (by omega) (by omega) (by omega) hoO hmO hsO' (by assumption) (by assumption) (ints_take2 (k2.fmod 3).toNat) hzV hrv3 (by omega) hti (by assumption) (by assumption) (by rfl) (by rfl) (by rw [ec]; rfl) (by rfl) (by rfl) (by rfl) (by rfl) (by rw [ecnt, hcnt]; rfl) (by rfl) (by rfl) (by rfl)
  refine hide fun Pz kPz => ?_
  obtain ⟨X, OX, hcl, hcl2, eH, S, NS⟩ := hs'
  refine kPz ?_
  clear kPz
  have hrwX : some (Value.ref row) = some (Value.ref X.row) := S.names.row
  clear NX
  refine For_invVF FX rfl rfl ?_
  (repeat' ((fail_if_success k_extra "stopP11"); k_extra "kst"))
  rename Fr _ _ _ _ => FY
  rename News _ _ _ _ => NY
  rw [Option.some.inj hrwX]
  refine next_top (by (first | k_extra "tb_rel2" | k_extra "tb_rel")) OX FY NY S.hrow S.hns (fun p hp => S.wf.apart OX p hp _ (.tail _ (.tail _ (.tail _ (.head _))))) ?_
  intro h8 tk8 k3 t3 rv4 n4 ns4 F8 hrv4 hrn4 N8
  obtain ⟨S2, N9⟩ : ∃ S2 : LS _ X 0 _, News _ _ h8 (S2.led []) := ⟨{ S with rowV := rv4, rowN := n4, ns := ns4, hrow := hrv4, hns := Nat.le_trans hrn4 S.hns }, N8⟩
  clear FY NY N8
  have j0 : 0 ≤ k3.fmod 31 := Int.fmod_nonneg_of_pos _ (by decide)
  have j1 : k3.fmod 31 < 31 := Int.fmod_lt_of_pos _ (by decide)
  (repeat' ((fail_if_success k_extra "stopP11"); k_extra "kst"))
  generalize k3.fmod 31 = kq at *
  refine range1_rows F8 N9 ?_
  intro h9 tk9 t9 u9 v9 hr9 F9 N10 _
  clear F8 N9
  (repeat' ((fail_if_success k_extra "stopP11"); k_extra "kst"))
  refine iter_range (n := (kq - 0).toNat) (fun i m nw => ∃ S : LS _ X i m, nw = S.led []) rfl hr9 (small_one (by omega) (by omega) (by omega) (by omega)) (rangeSize_nat _ _) F9 N10 ⟨S2, rfl⟩ ?_ ?_
  · rintro i t m₁ nw h10 tk10 own I hi ⟨S10, rfl⟩ hltI hnI hown F10 N11 hio
    clear F9 N10
    exact loop_turn (by (first | k_extra "tb_rel2" | k_extra "tb_rel")) OX (by k_room) (by ((try simp only [units_in1, units_deeper, units_under_make, units_caller]); omega)) eH hcl hcl2 (by omega) S10 hnI hown F10 N11 hio
  · rintro m₁ nw h11 tk11 ⟨S11, rfl⟩ F11 N11
    clear F9 N10
    obtain ⟨tdp, hdp⟩ := S11.names.dp
    have hdp' : m₁ (Str.ofString "deepest") = some (.int S11.lowest tdp) := by rw [S11.slots.eq]; exact hdp
    have b7 := S11.b7
    have sle := S11.slots.le
    have seq := S11.slots.eq
    show wpAny _ _ (execs _ _) _ _ _
    refine end_piece (by (first | k_extra "tb_rel2" | k_extra "tb_rel")) OX F11 (by k_room) (by ((try simp only [units_in1, units_deeper, units_under_make, units_caller]); omega)) S11.names.co hdp' N11 S11.wf ⟨by omega, by omega⟩ ?_
    intro h12 tk12 m12 F12
    show GoodW _ _ _ _ _ (.ok (.ret (.bool true))) _
    (repeat' ((fail_if_success k_extra "stopP11"); k_extra "kst")))
end
end
end Mine
theorem PySem.Challenge.cw_pb0351_01_holds : PySem.Challenge.rw_pb0351_01.Holds :=
  Mine.main
