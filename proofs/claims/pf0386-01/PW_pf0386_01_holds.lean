import PyProof.Rows.All
import Wide.All
import OpenK.AllK
import Wide.FinOn
import Lean
import PySem.Challenge.RW_pf0386_01
set_option Elab.async false
set_option linter.all false
set_option compiler.extract_closed false
namespace Mine
local macro_rules | `(tactic| walk_at $s:str) => do
  let t := Lean.Syntax.mkStrLit ("o " ++ s.getString)
  `(tactic| k_extra $t)
local macro_rules | `(tactic| k_mem) => `(tactic| k_extra "k_mem")
local macro_rules | `(tactic| k_all) => `(tactic| k_extra "k_all")
local macro_rules | `(tactic| ktr_room) => `(tactic| k_extra "ktr_room")
local macro_rules | `(tactic| k_room) => `(tactic| k_extra "k_room")
local macro_rules | `(tactic| ktr_units) => `(tactic| k_extra "ktr_units")
local macro_rules | `(tactic| k_enter) => `(tactic| k_extra "k_enter")
local macro_rules | `(tactic| tbn_conj) => `(tactic| k_extra "tbn_conj")
local macro_rules | `(tactic| ktd_rel) => `(tactic| k_extra "ktd_rel")
section
open PySem PySem.W PyProof.Rows
noncomputable section
/-- the run of the top over a tree of objects, by the library's quick twins -/
noncomputable def topRunQ (p : Program) (w : World) (n₀ : Nat) (ann : Option Value) : Nat → SharedT → Thread → Option SharedT
  | 0, _, _ => none
  | n + 1, s, t => match through t with
    | true => some s
    | false => match PySem.W.Fast.tw6613529449190102663 n₀ ann t with
      | false => none
      | true => match PySem.W.Fast.tw10156331382660048174 (PySem.W.Fast.tw11892475500146522536 PySem.W.Fast.tw14364793385576792824) p w s t with
        | some (s', t') => topRunQ p w n₀ ann n s' t'
        | none => none
theorem topRun_of {p : Program} {w : World} {n₀ : Nat} {ann : Option Value} : ∀ {n : Nat} {s r : SharedT} {t : Thread}, topRunQ p w n₀ ann n s t = some r → topRun treeTable p w n₀ ann n s.abs t = some r.abs
  | 0, _, _, _, h => by cases h
  | n + 1, s, r, t, h => by
    unfold topRunQ at h
    rw [← PySem.W.Fast.te6613529449190102663, ← PySem.W.Fast.te10156331382660048174, ← PySem.W.Fast.te11892475500146522536, ← PySem.W.Fast.te14364793385576792824] at h
    unfold topRun
    cases he : through t with
    | true => rw [he] at h; cases h; rfl
    | false =>
      rw [he] at h
      cases hk : stepOk n₀ ann t with
      | false => rw [hk] at h; cases h
      | true =>
        rw [hk] at h
        cases hs : stepT (denote treeTable) p w s t with
        | none => rw [hs] at h; cases h
        | some r' => obtain ⟨s₂, t₂⟩ := r'; rw [hs] at h; dsimp only; rw [stepT_spec hs]; exact topRun_of h
noncomputable def treeOf : List Obj → Nat → BT → BT
  | [], _, t => t
  | o :: r, n, t => treeOf r (n + 1) (t.ins n o)
noncomputable def bootS (w : World) (os : OsState) : SharedT := ⟨treeOf (boot_heap w.params).objs.toList 0 .nil, 11, {}, #[], boot_drawn, boot_toks, os⟩
theorem boot_abs (w : World) (os : OsState) : (bootS w os).abs = ⟨boot_heap w.params, #[], boot_drawn, boot_toks, os⟩ := by kernel_rfl
/-- one step; none where the top is through -/
noncomputable def step1 (p : Program) (w : World) (n₀ : Nat) (ann : Option Value) (s : SharedT) (t : Thread) : Option (SharedT × Thread) :=
  match through t with
  | true => none
  | false => match PySem.W.Fast.tw6613529449190102663 n₀ ann t with
    | false => none
    | true => PySem.W.Fast.tw10156331382660048174 (PySem.W.Fast.tw11892475500146522536 PySem.W.Fast.tw14364793385576792824) p w s t
noncomputable def plainQ (p : Program) (w : World) (n₀ : Nat) (ann : Option Value) : Nat → SharedT → Thread → Option (SharedT × Thread)
  | 0, s, t => some (s, t)
  | n + 1, s, t => match step1 p w n₀ ann s t with
    | some (s', t') => plainQ p w n₀ ann n s' t'
    | none => none
noncomputable abbrev Ends : Type := List (Option (SharedT × Thread))
noncomputable abbrev wG (w : World) (b : Bool) : World := w.withFollow "special-get-raises" b
noncomputable abbrev wC (w : World) (b : Bool) : World := w.withFollow "comprehension-iter-twice" b
/-- the run with forks: n steps that ask the world nothing, then 8 (11) steps in each of the ways that the world may answer; the ways' ends are kept, to be held against one another -/
noncomputable def forkQ (p : Program) (w : World) (n₀ : Nat) (ann : Option Value) : List (Nat × Bool) → SharedT → Thread → Ends → Ends → Option ((SharedT × Thread) × Ends × Ends)
  | [], s, t, a, b => some ((s, t), a, b)
  | (n, c) :: l, s, t, a, b => match plainQ p w n₀ ann n s t with
    | none => none
    | some (s1, t1) => match c with
      | false => match plainQ p (wG w false) n₀ ann 8 s1 t1 with
        | none => none
        | some (s2, t2) => forkQ p w n₀ ann l s2 t2 (some (s2, t2) :: a) (plainQ p (wG w true) n₀ ann 8 s1 t1 :: b)
      | true => match plainQ p (wG (wC w false) false) n₀ ann 11 s1 t1 with
        | none => none
        | some (s2, t2) => forkQ p w n₀ ann l s2 t2 (some (s2, t2) :: some (s2, t2) :: a) (plainQ p (wG (wC w false) true) n₀ ann 11 s1 t1 :: plainQ p (wC w true) n₀ ann 1 s1 t1 :: b)
noncomputable def cost : List (Nat × Bool) → Nat
  | [] => 0
  | (n, _) :: l => n + (11 + cost l)
noncomputable def Reach (p : Program) (w : World) (n₀ : Nat) (ann : Option Value) (k : Nat) (s : SharedT) (t : Thread) (s' : SharedT) (t' : Thread) : Prop :=
  ∀ m r, topRun treeTable p w n₀ ann m s'.abs t' = some r → topRun treeTable p w n₀ ann (k + m) s.abs t = some r
theorem Reach.trans {p : Program} {w : World} {n₀ : Nat} {ann : Option Value} {k k' : Nat} {s s1 s2 : SharedT} {t t1 t2 : Thread} (a : Reach p w n₀ ann k s t s1 t1) (b : Reach p w n₀ ann k' s1 t1 s2 t2) : Reach p w n₀ ann (k + k') s t s2 t2 := fun m r h => by
  have := a _ _ (b m r h)
  rwa [Nat.add_assoc]
theorem Reach.more {p : Program} {w : World} {n₀ : Nat} {ann : Option Value} {k : Nat} (k' : Nat) {s s1 : SharedT} {t t1 : Thread} (a : Reach p w n₀ ann k s t s1 t1) : Reach p w n₀ ann (k + k') s t s1 t1 := fun m r h => by
  have := topRun_mono k' _ _ _ _ (a m r h)
  rwa [show k + k' + m = k + m + k' by omega]
theorem plain_of {p : Program} {w : World} {n₀ : Nat} {ann : Option Value} : ∀ {n : Nat} {s s' : SharedT} {t t' : Thread}, plainQ p w n₀ ann n s t = some (s', t') → Reach p w n₀ ann n s t s' t'
  | 0, _, _, _, _, h => by cases h; intro m r h; rwa [Nat.zero_add]
  | n + 1, s, s', t, t', h => by
    unfold plainQ at h
    cases e : step1 p w n₀ ann s t with
    | none => rw [e] at h; cases h
    | some r1 =>
      obtain ⟨s1, t1⟩ := r1
      rw [e] at h
      have := plain_of h
      rw [Nat.add_comm n 1]
      refine Reach.trans ?_ this
      unfold step1 at e
      rw [← PySem.W.Fast.te6613529449190102663, ← PySem.W.Fast.te10156331382660048174, ← PySem.W.Fast.te11892475500146522536, ← PySem.W.Fast.te14364793385576792824] at e
      intro m r hr
      rw [Nat.add_comm 1 m]
      unfold topRun
      cases he : through t with
      | true => rw [he] at e; cases e
      | false =>
        rw [he] at e
        cases hk : stepOk n₀ ann t with
        | false => rw [hk] at e; cases e
        | true =>
          rw [hk] at e
          dsimp only at e ⊢
          rw [stepT_spec e]
          exact hr
theorem wG_cases (w : World) : wG w false = w ∨ wG w true = w := by
  have e := World.withFollow_self w "special-get-raises"
  cases h : w.params.followText "special-get-raises" <;> rw [h] at e
  · exact .inl e
  · exact .inr e
theorem wC_cases (w : World) : wC w false = w ∨ wC w true = w := by
  have e := World.withFollow_self w "comprehension-iter-twice"
  cases h : w.params.followText "comprehension-iter-twice" <;> rw [h] at e
  · exact .inl e
  · exact .inr e
theorem fork_of {p : Program} {w : World} {n₀ : Nat} {ann : Option Value} : ∀ {l : List (Nat × Bool)} {s s' : SharedT} {t t' : Thread} {a b c : Ends}, forkQ p w n₀ ann l s t a b = some ((s', t'), c, c) → a = b ∧ Reach p w n₀ ann (cost l) s t s' t'
  | [], s, s', t, t', a, b, c, h => by
    unfold forkQ at h
    cases h
    exact ⟨rfl, fun m r h => by show topRun _ _ _ _ _ (0 + m) _ _ = _; rwa [Nat.zero_add]⟩
  | (n, x) :: l, s, s', t, t', a, b, c, h => by
    unfold forkQ at h
    cases e1 : plainQ p w n₀ ann n s t with
    | none => rw [e1] at h; cases h
    | some r1 =>
      obtain ⟨s1, t1⟩ := r1
      rw [e1] at h
      have R1 := plain_of e1
      cases x with
      | false =>
        dsimp only at h
        cases e2 : plainQ p (wG w false) n₀ ann 8 s1 t1 with
        | none => rw [e2] at h; cases h
        | some r2 =>
          obtain ⟨s2, t2⟩ := r2
          rw [e2] at h
          obtain ⟨q, R3⟩ := fork_of h
          injection q with q1 q2
          refine ⟨q2, R1.trans (Reach.trans ?_ R3)⟩
          rcases wG_cases w with hw | hw
          · rw [hw] at e2; exact (plain_of e2).more 3
          · rw [hw] at q1; exact (plain_of q1.symm).more 3
      | true =>
        dsimp only at h
        cases e2 : plainQ p (wG (wC w false) false) n₀ ann 11 s1 t1 with
        | none => rw [e2] at h; cases h
        | some r2 =>
          obtain ⟨s2, t2⟩ := r2
          rw [e2] at h
          obtain ⟨q, R3⟩ := fork_of h
          injection q with q1 q2
          injection q2 with q2 q3
          refine ⟨q3, R1.trans (Reach.trans ?_ R3)⟩
          rcases wC_cases w with hc | hc
          · rw [hc] at e2 q1
            rcases wG_cases w with hw | hw
            · rw [hw] at e2; exact plain_of e2
            · rw [hw] at q1; exact plain_of q1.symm
          · rw [hc] at q2; exact (plain_of q2.symm).more 10
/-- a list of objects: those that are told, and for the rest what g says -/
noncomputable def mix (g : Nat → Obj) : Nat → Nat → Frag → List Obj
  | 0, _, _ => []
  | k + 1, a, fr => match fr with
    | [] => g a :: mix g k (a + 1) []
    | (b, o) :: r => match Nat.beq a b with
      | true => o :: mix g k (a + 1) r
      | false => g a :: mix g k (a + 1) ((b, o) :: r)
noncomputable def lookN (g : Nat → Obj) : Frag → Nat → Obj
  | [], a => g a
  | (b, o) :: r, a => match Nat.beq a b with
    | true => o
    | false => lookN g r a
noncomputable def endS (fr ex : Params → Frag) (n toks : Nat) (w : World) (os : OsState) (g : Nat → Obj) : Shared := ⟨⟨(mix (lookN g (ex w.params)) n 0 (fr w.params)).toArray, {}⟩, #[], {}, toks, os⟩
theorem look_eq {l : List Obj} {g : Nat → Obj} (hg : ∀ (a : Nat) (o : Obj), l[a]? = some o → g a = o) : ∀ {ex : Frag}, (∀ p ∈ ex, l[p.1]? = some p.2) → ∀ (a : Nat) (o : Obj), l[a]? = some o → lookN g ex a = o
  | [], _, a, o, e => hg a o e
  | (b, x) :: r, h, a, o, e => by
    unfold lookN
    cases c : Nat.beq a b with
    | true =>
      have := Nat.eq_of_beq_eq_true c
      subst this
      have hx := h _ List.mem_cons_self
      rw [e] at hx
      exact (Option.some.inj hx).symm
    | false => exact look_eq hg (fun p hp => h p (List.mem_cons_of_mem _ hp)) a o e
theorem mix_eq {l : List Obj} {g : Nat → Obj} (hg : ∀ (a : Nat) (o : Obj), l[a]? = some o → g a = o) : ∀ (k a : Nat) (fr : Frag), a + k = l.length → (∀ p ∈ fr, l[p.1]? = some p.2) → mix g k a fr = l.drop a
  | 0, a, fr, e, _ => by rw [List.drop_of_length_le (by omega)]; rfl
  | k + 1, a, fr, e, h => by
    have lt : a < l.length := by omega
    have e1 : l[a]? = some l[a] := List.getElem?_eq_getElem lt
    rw [List.drop_eq_getElem_cons lt]
    match fr, h with
    | [], h =>
      show g a :: mix g k (a + 1) [] = _
      rw [hg _ _ e1, mix_eq hg k (a + 1) [] (by omega) h]
    | (b, o) :: r, h =>
      show (match Nat.beq a b with | true => o :: mix g k (a + 1) r | false => g a :: mix g k (a + 1) ((b, o) :: r)) = _
      cases c : Nat.beq a b with
      | true =>
        have := Nat.eq_of_beq_eq_true c
        subst this
        have ho := h _ List.mem_cons_self
        rw [e1] at ho
        show o :: mix g k (a + 1) r = _
        rw [Option.some.inj ho, mix_eq hg k (a + 1) r (by omega) fun p hp => h p (List.mem_cons_of_mem _ hp)]
      | false =>
        show g a :: mix g k (a + 1) ((b, o) :: r) = _
        rw [hg _ _ e1, mix_eq hg k (a + 1) ((b, o) :: r) (by omega) h]
theorem get_objs {h : Heap} {a : Addr} {o : Obj} (e : h.get? a = some o) : h.objs.toList[a]? = some o := by
  rw [Array.getElem?_toList]
  unfold Heap.get? at e
  split at e
  · cases e
  · exact e
noncomputable def seenM (fr ex : Params → Frag) (w : World) (s : Shared) := (((fr w.params ++ ex w.params).map fun p => s.heap.get? p.1), s.heap.objs.toList.length, s.heap.life, s.gens, s.drawn, s.toks)
noncomputable def goodM (fr ex : Params → Frag) (n toks : Nat) (w : World) : List (Option Obj) × Nat × Life × Array GenState × Drawn × Nat := (((fr w.params ++ ex w.params).map fun p => some p.2), n, {}, #[], {}, toks)
theorem end_of {fr ex : Params → Frag} {n toks : Nat} {w : World} {s : Shared} (e : seenM fr ex w s = goodM fr ex n toks w) : ∃ g, s = endS fr ex n toks w s.os g := by
  obtain ⟨⟨objs, life⟩, gens, drawn, tk, os⟩ := s
  simp only [seenM, goodM, Prod.mk.injEq] at e
  obtain ⟨e1, e2, rfl, rfl, rfl, rfl⟩ := e
  have f := fun p hp => get_objs (List.map_inj_left.mp e1 p hp)
  have hg : ∀ (a : Nat) (o : Obj), objs.toList[a]? = some o → (fun a => objs.toList.getD a default) a = o := fun a o h => by
    show objs.toList.getD a default = o
    rw [List.getD_eq_getElem?_getD, h]; rfl
  refine ⟨fun a => objs.toList.getD a default, ?_⟩
  have m := mix_eq (look_eq hg fun p hp => f p (List.mem_append_right _ hp)) n 0 (fr w.params) (by rw [Nat.zero_add]; exact e2.symm) fun p hp => f p (List.mem_append_left _ hp)
  unfold endS
  rw [m, List.drop_zero, Array.toArray_toList]
/-- the run as far as where the world is asked no more -/
noncomputable def midF (p : Program) (fr ex : Params → Frag) (n toks k : Nat) (tM : World → OsState → Thread) (l : List (Nat × Bool)) (w : World) (os : OsState) (b : Bool) :=
  match forkQ p w 11 (some (.ref 6)) l (bootS w os) (topStub p) [] [] with
  | none => match b with
    | false => none
    | true => some ((goodM fr ex n toks w, tM w os), [])
  | some ((s, t), x, y) => match plainQ p w 11 (some (.ref 6)) k s t with
    | none => match b with
      | false => none
      | true => some ((goodM fr ex n toks w, tM w os), [])
    | some (s', t') => match b with
      | false => some ((seenM fr ex w s'.abs, t'), x)
      | true => some ((goodM fr ex n toks w, tM w os), y)
noncomputable def midS (fr ex : Params → Frag) (n toks : Nat) (w : World) (os : OsState) (g : Nat → Obj) : SharedT := ⟨treeOf (mix (lookN g (ex w.params)) n 0 (fr w.params)) 0 .nil, n, {}, #[], {}, toks, os⟩
noncomputable def sufF (p : Program) (fr ex : Params → Frag) (M : Nat) (w : World) (s : SharedT) (t : Thread) :=
  match topRunQ p w 11 (some (.ref 6)) M s t with
  | none => none
  | some r => some (seenM fr ex w r.abs)
/-- the thread behind so many statements of the top -/
noncomputable def restT (j : Nat) (pos : Pos) (t : Thread) : Thread := match t.code with
  | .body b env => ⟨PySem.W.Fast.tw11892475500146522536 PySem.W.Fast.tw14364793385576792824 (.body (b.drop j) env), t.code, pos, t.stack⟩
  | _ => t
noncomputable def cutT (p : Program) (i j : Nat) (pos : Pos) (w : World) (os : OsState) : Thread := match plainQ p w 11 (some (.ref 6)) i (bootS w os) (topStub p) with
  | some (_, t) => restT j pos t
  | none => topStub p
theorem left_of {p q : Program} {loose : List Str} {Xt : Shared → Bool} {α : Type} {Yf : Shared → α} {Ya : World → α} {N M km : Nat} {l : List (Nat × Bool)} {fr ex fm em : Params → Frag} {n toks nm tm : Nat} {tM : World → OsState → Thread}
    (op : ∀ w : World, (fencedOpening treeTable p w N).map (fun s => (s.heap, s.gens, s.drawn, s.toks)) = some (boot_heap w.params, Array.mk [], boot_drawn, boot_toks)) (le : Nat.ble (cost l + (km + M)) N = true)
    (size : ∀ w : World, ((boot_heap w.params).isNs mainGlobals, (boot_heap w.params).objs.size, (boot_heap w.params).nsMap mainGlobals "__annotations__") = (true, 11, some (.ref 6)))
    (mid : ∀ w : World, (fun os => midF p fm em nm tm km tM l w os false) = fun os => midF p fm em nm tm km tM l w os true)
    (ab : ∀ (w : World) (os : OsState) (g : Nat → Obj), (midS fm em nm tm w os g).abs = endS fm em nm tm w os g)
    (suf : ∀ (w : World) (o os : OsState) (g : Nat → Obj), sufF p fr ex M w (midS fm em nm tm w os g) (tM w o) = some (goodM fr ex n toks w))
    (k1 : ∀ (w : World) (os : OsState) (g : Nat → Obj), (staticsOk (importedModules p.main.body) (boot_heap w.params) (endS fr ex n toks w os g).heap && namesBound p (endS fr ex n toks w os g).heap && gensDone (endS fr ex n toks w os g) && laidKept (boot_heap w.params) (endS fr ex n toks w os g).heap) = true)
    (k2 : ∀ (w : World) (os : OsState) (g : Nat → Obj), openSeen q loose (importedModules p.main.body) Xt true (endS fr ex n toks w os g) = openGood q loose)
    (k3 : ∀ (w : World) (os : OsState) (g : Nat → Obj), Yf (endS fr ex n toks w os g) = Ya w) : LeftO p q loose Xt Yf Ya N := fun w => by
  obtain ⟨⟨h, gs, d, k, os⟩, e1, e'⟩ := Option.map_eq_some_iff.mp (op w)
  obtain ⟨rfl, rfl, rfl, rfl⟩ : h = boot_heap w.params ∧ gs = Array.mk [] ∧ d = boot_drawn ∧ k = boot_toks := by simpa using e'
  have z1 := congrArg Prod.fst (size w)
  have z2 := congrArg (fun x => x.2.1) (size w)
  have z3 := congrArg (fun x => x.2.2) (size w)
  dsimp only at z1 z2 z3
  have c := congrFun (mid w) os
  unfold midF at c
  cases hf : forkQ p w 11 (some (.ref 6)) l (bootS w os) (topStub p) [] [] with
  | none => rw [hf] at c; cases c
  | some f =>
    obtain ⟨⟨s1, t1⟩, x, y⟩ := f
    rw [hf] at c
    dsimp only at c
    cases hm : plainQ p w 11 (some (.ref 6)) km s1 t1 with
    | none => rw [hm] at c; cases c
    | some m =>
      obtain ⟨s2, t2⟩ := m
      rw [hm] at c
      have c := Option.some.inj c
      obtain rfl : x = y := congrArg Prod.snd c
      have ct : t2 = tM w os := congrArg (fun z => z.1.2) c
      obtain ⟨gm, hs2⟩ := end_of (congrArg (fun z => z.1.1) c)
      have u := suf w os s2.abs.os gm
      unfold sufF at u
      cases hr : topRunQ p w 11 (some (.ref 6)) M (midS fm em nm tm w s2.abs.os gm) (tM w os) with
      | none => rw [hr] at u; cases u
      | some r =>
        rw [hr] at u
        obtain ⟨g, hs⟩ := end_of (Option.some.inj u)
        have l1 := k1 w r.abs.os g
        have l2 := k2 w r.abs.os g
        have l3 := k3 w r.abs.os g
        rw [← hs] at l1 l2 l3
        have r0 := topRun_of hr
        rw [ab, ← hs2, ← ct] at r0
        have r1 := (fork_of hf).2 _ _ (plain_of hm _ _ r0)
        rw [boot_abs] at r1
        have r2 := topRun_mono (N - (cost l + (km + M))) _ _ _ _ r1
        rw [Nat.add_sub_cancel' (Nat.le_of_ble_eq_true le)] at r2
        have t : topFrom treeTable p w N ⟨boot_heap w.params, Array.mk [], boot_drawn, boot_toks, os⟩ = some r.abs := by
          unfold topFrom
          dsimp only
          rw [z1, z2, z3]
          show (match true && true with | true => (topRun treeTable p w 11 (some (.ref 6)) N _ (topStub p)).bind _ | false => none) = _
          rw [r2]
          show (match staticsOk (importedModules p.main.body) (boot_heap w.params) r.abs.heap && namesBound p r.abs.heap && gensDone r.abs && laidKept (boot_heap w.params) r.abs.heap with | true => _ | false => _) = _
          rw [l1]
        unfold openEnds
        rw [e1]
        show (topFrom treeTable p w N _).map _ = _
        rw [t]
        exact congrArg some (Prod.ext l2 l3)
theorem holds_both {r : OpenRow} {q : Program} {loose : List Str} {Xt : Shared → Bool} {XP : (Str → Option Value) → Heap → Prop} {α : Type} {Yf : Shared → α} {Ya : World → α} {YP : World → Heap → Prop} {d : DefRec} {kwd : List (Str × PySem.Expr)} {N : Nat}
    (hY : ∀ w s, Yf s = Ya w → YP w s.heap) (hYk : ∀ w h h', YP w h → (∀ b o, h.get? b = some o → h'.get? b = some o) → YP w h')
    (hX : ∀ s, Xt s = true → XP (s.heap.nsMap mainGlobals) s.heap) (hXk : ∀ mg h h', XP mg h → (∀ b o, h.get? b = some o → h'.get? b = some o) → XP mg h')
    (hdef : defOf q r.name = some (d, kwd)) (hp : r.prog.theDef r.name = some (d.params, d.body, d.scope)) (hk : kwWritten? d.params.kwonlyargs d.params.kw_defaults = some kwd) (hRf : ∀ s, Xt s = true → RecFacts r.records s.heap) (hwr : (!r.writes || r.records.isEmpty) = true)
    (k1 : r.wellSaid = true) (ok : (chainsOk q && opensWell r.prog && (frees r.toRowW && r.within.isEmpty)) = true) (hb : r.prog.bare) (hw : r.toRowW.promised)
    (both : LeftO r.prog q loose Xt Yf Ya N ∧ WalkO q loose XP YP r.toRowW d kwd fun f vs => PySem.call f vs) : r.Holds :=
  holds_open both.1 hY hYk hX hXk hdef hp hk hRf hwr k1 ok hb hw both.2
noncomputable def qV : Program := view PySem.Challenge.pw_pf0386_01 [1, 2, 3, 5, 6, 7, 8, 9, 10, 12, 13, 14, 15, 16, 17, 19, 20, 21, 22, 23, 24, 25, 26, 27, 28, 29, 30, 31, 32, 33, 35, 36, 39, 40, 41, 42, 43, 44, 45, 46, 48, 49, 50, 51, 52, 53, 54, 55, 56, 57, 58]
end
end
section
open PySem PySem.W PyProof.Rows
set_option compiler.extract_closed false
set_option maxRecDepth 100000
set_option maxHeartbeats 0
theorem said9 : OpenLaw.wellSaid PySem.Challenge.rw_pf0386_01 = true := by
  rw [PySem.W.Fast.te9446332074065402090]
  decide +kernel
abbrev rowL : OpenRow := OpenLaw.row PySem.Challenge.rw_pf0386_01
abbrev looseL : List Str := ["HALF_TABLE", "TAG_KINDS", "Frame", "pack_frame", "unpack_frame"]
noncomputable abbrev xtL : Shared → Bool := fun s => xlAt qV [] s && recOk (RowW.records (OpenRow.toRowW rowL)) s
theorem head9 {d : DefRec} {kwd : List (Str × PySem.Expr)} (H : Hook) (hdef : defOf qV (OpenRow.toRowW rowL).name = some (d, kwd)) (hp : (OpenRow.toRowW rowL).prog.theDef (OpenRow.toRowW rowL).name = some (d.params, d.body, d.scope)) (hk : kwWritten? d.params.kwonlyargs d.params.kw_defaults = some kwd) (k1 : rowL.wellSaid = true) (hw : (OpenRow.toRowW rowL).promised)
    (both : LeftO (OpenRow.toRowW rowL).prog qV looseL xtL (Hook.obs H) (Hook.val H) 15670 ∧ WalkO qV looseL (XL qV []) (Hook.says H) (OpenRow.toRowW rowL) d kwd fun f vs => PySem.call f vs) : rowL.Holds :=
  holds_both (q := qV) (loose := looseL) (Xt := xtL) (XP := XL qV []) (Yf := Hook.obs H) (Ya := Hook.val H) (YP := Hook.says H) (N := 15670) (Hook.of H) (Hook.keeps H)
    (fun s e => xl_of s (Bool.and_eq_true_iff.mp e).1) XL.keeps hdef hp hk (fun s e => recFacts_of (Bool.and_eq_true_iff.mp e).2) (by rfl) k1 (by decide +kernel) ⟨rfl, rfl, rfl, rfl, rfl, by decide +kernel⟩ hw both
local macro_rules | `(tactic| o_law) => `(tactic| refine holds_law said9 fun said => ?_)
local macro_rules | `(tactic| o_head $H) => `(tactic| refine head9 $H (by rfl) (by rfl) (by rfl) (by assumption) ?hw ?hc)
open_top hd for PySem.Challenge.rw_pf0386_01
end
section
open PySem PySem.W PyProof.Rows
set_option maxRecDepth 100000
set_option maxHeartbeats 0
noncomputable abbrev asL : List Addr := [2, 3, 15, 22, 24, 25, 27, 28, 29, 30, 31, 32, 35, 42, 43, 44, 47, 54, 55, 56, 153, 154, 156, 157, 159, 160, 161, 164, 165, 166, 169, 170, 171, 173, 174, 176, 177, 178, 180, 181, 183, 184, 185, 187, 188, 190, 191, 192, 194, 195, 197, 198, 199, 201, 202, 204, 205, 206, 214, 216, 217, 219, 220, 221, 223, 224, 226, 227, 228, 229, 230, 231, 232, 242, 244, 245, 247, 248, 249, 252, 253, 254, 255, 257, 258, 260, 261, 262, 263, 264, 265, 266, 269, 271, 272, 274, 275, 276, 278, 279, 281, 282, 283, 284, 287, 288, 289, 291, 292, 294, 295, 296, 298, 299, 301, 302, 303, 304, 306, 307, 309, 310, 311, 313, 314, 316, 317, 318, 320, 321, 323, 324, 325, 327, 328, 330, 331, 332, 334, 335, 337, 338, 339, 341, 342, 344, 345, 346, 348, 349, 351, 352, 353, 355, 356, 358, 359, 360, 362, 363, 365, 366, 367, 369, 370, 372, 373, 374, 376, 377, 379, 380, 381, 383, 384, 386, 387, 388, 390, 391, 393, 394, 395, 398, 399, 400, 402, 403, 405, 406, 407, 410, 411, 412, 414, 415, 417, 418, 419, 421, 422, 424, 425, 426, 428, 429, 431, 432, 433, 436, 437]
theorem as_eq : ∀ P, asL = (hd.heap_1 P).map (·.1) := fun _ => by kernel_rfl
noncomputable abbrev Hk : Hook := kmHook hd.heap_1 asL as_eq [427, 408]
/-- where the top asks the world: so many steps ahead of each place; the one marked true is the comprehension's own -/
noncomputable def sched : List (Nat × Bool) := [(762, false), (5, true), (67, false), (35, false), (45, false), (45, false), (45, false), (108, false), (35, false), (52, false), (44, false), (44, false), (107, false), (35, false), (44, false), (52, false), (44, false), (107, false), (35, false), (51, false), (51, false), (44, false), (107, false), (35, false), (44, false), (44, false), (52, false), (107, false), (35, false), (51, false), (44, false), (51, false), (107, false), (35, false), (44, false), (51, false), (51, false), (107, false), (35, false), (51, false), (51, false), (51, false), (107, false), (35, false), (44, false), (44, false), (44, false), (115, false), (35, false), (51, false), (44, false), (44, false), (114, false), (35, false), (44, false), (51, false), (44, false), (114, false), (35, false), (51, false), (51, false), (44, false), (114, false), (35, false), (44, false), (44, false), (51, false), (114, false), (35, false), (51, false), (44, false), (51, false), (114, false), (35, false), (44, false), (51, false), (51, false), (114, false), (35, false), (51, false), (51, false), (51, false)]
noncomputable def bootAt (P : Params) (a : Nat) : Obj := (boot_heap P).objs.toList.getD a default
noncomputable def o64 : Obj := { cls := Value.type "code", data := Data.fields #[Value.str (Str.ofString "divided_word") 256, Value.str (Str.ofString "divided_word") 257, Value.str (Str.ofString "/claim/cut.py") 258, Value.int 14 0, Value.int 1 0, Value.int 0 0, Value.int 0 0, Value.int 3 0, Value.ref 59, Value.bool true, Value.int 181 0, Value.ref 60, Value.none, Value.ref 61, Value.ref 62, Value.ref 63, Value.int 261 0, Value.int 14 0, Value.str (Str.ofString "/claim/cut.py") 262] }
noncomputable def o65 : Obj := match Program.theDef PySem.Challenge.pw_pf0386_01 "divided_word" with
  | some (a, b, s) => { cls := Value.type "function", data := Data.func { name := "divided_word", qualname := "divided_word", params := a, body := .stmts b, scope := s, globals := 3, closure := [], defaults := Value.none, kwdefaults := Value.none, pyModule := Value.str "switchloom.crc" 250, code := Value.ref 64 } }
  | none => default
noncomputable def tabL : List Nat := [60, 155, 162, 167, 172, 179, 186, 193, 200, 270, 277, 290, 297, 312, 319, 326, 333, 340, 347, 354, 361, 368, 375, 382, 389, 396, 401, 408, 413, 420, 427, 434]
noncomputable def exF (P : Params) : Frag := (0, bootAt P 0) :: (1, bootAt P 1) :: (4, bootAt P 4) :: (64, o64) :: (65, o65) :: tabL.map fun a => (a, tabObj #[])
noncomputable def o12 : Obj := { cls := .none, data := .fields #[Value.int 2 0, Value.int 0 0, Value.ref 20, Value.int 7 0, Value.int 0 0, Value.ref 40, Value.int 9 0, Value.int 0 0, Value.ref 52, Value.int 14 0, Value.int 0 0, Value.ref 64] }
noncomputable def o13 : Obj := { cls := Value.type "code", data := Data.fields #[Value.str (Str.ofString "<module>") 182, Value.str (Str.ofString "<module>") 183, Value.str (Str.ofString "/claim/cut.py") 184, Value.int 1 0, Value.int 0 0, Value.int 0 0, Value.int 0 0, Value.int 0 0, Value.ref 11, Value.bool false, Value.int 181 0, Value.ref 12, Value.none, Value.none, Value.none, Value.none, Value.int 185 0, Value.int 1 0, Value.str (Str.ofString "/claim/cut.py") 186] }
/-- the names of the module behind its ninth statement -/
noncomputable def cut3 : Obj → Obj
  | ⟨c, d, .dict es _, sl⟩ => ⟨c, d, .dict (match es.toList with | e :: r => Array.mk ({ e with val := .str "switchloom.crc" 250 } :: r.take 15) | [] => #[]) 16, sl⟩
  | o => o
noncomputable def cutFr : Frag → Frag
  | [] => []
  | (b, o) :: r => match Nat.blt b 154 with
    | true => (b, match Nat.beq b 3 with | true => cut3 o | false => o) :: cutFr r
    | false => []
noncomputable def frM (P : Params) : Frag := cutFr (hd.heap_1 P)
noncomputable def exM (P : Params) : Frag := [(0, bootAt P 0), (1, bootAt P 1), (4, bootAt P 4), (60, tabObj #[]), (64, o64), (65, o65), (12, o12), (13, o13)]
noncomputable def tM : World → OsState → Thread := cutT (OpenRow.toRowW (OpenLaw.row PySem.Challenge.rw_pf0386_01)).prog 12 9 ⟨18, 0, 18, 10⟩
theorem way1 (w : World) : (fun os => midF (OpenRow.toRowW (OpenLaw.row PySem.Challenge.rw_pf0386_01)).prog frM exM 154 908 103 tM sched w os false) = fun os => midF (OpenRow.toRowW (OpenLaw.row PySem.Challenge.rw_pf0386_01)).prog frM exM 154 908 103 tM sched w os true := by kernel_rfl
theorem way2 (w : World) (os : OsState) (g : Nat → Obj) : (midS frM exM 154 908 w os g).abs = endS frM exM 154 908 w os g := by kernel_rfl
theorem way3 (w : World) (o os : OsState) (g : Nat → Obj) : sufF (OpenRow.toRowW (OpenLaw.row PySem.Challenge.rw_pf0386_01)).prog hd.heap_1 exF 1700 w (midS frM exM 154 908 w os g) (tM w o) = some (goodM hd.heap_1 exF 438 1304 w) := by kernel_rfl
theorem look1 (w : World) (os : OsState) (g : Nat → Obj) : (staticsOk (importedModules (OpenRow.toRowW (OpenLaw.row PySem.Challenge.rw_pf0386_01)).prog.main.body) (boot_heap w.params) (endS hd.heap_1 exF 438 1304 w os g).heap && namesBound (OpenRow.toRowW (OpenLaw.row PySem.Challenge.rw_pf0386_01)).prog (endS hd.heap_1 exF 438 1304 w os g).heap && gensDone (endS hd.heap_1 exF 438 1304 w os g) && laidKept (boot_heap w.params) (endS hd.heap_1 exF 438 1304 w os g).heap) = true := by kernel_rfl
theorem look2a (w : World) (os : OsState) (g : Nat → Obj) : seen ((recsOf qV).map (·.name)) (ownsOf qV) [] { (endS hd.heap_1 exF 438 1304 w os g) with gens := #[] } = expectedOf qV := by kernel_rfl
theorem look2b (w : World) (os : OsState) (g : Nat → Obj) : ((endS hd.heap_1 exF 438 1304 w os g).heap.bltView, (endS hd.heap_1 exF 438 1304 w os g).heap.keysOk (looseW qV ["HALF_TABLE", "TAG_KINDS", "Frame", "pack_frame", "unpack_frame"]) ((recsOf qV).map (·.name)) ((litsOf qV).map (·.1)) ((clssOf qV (looseW qV ["HALF_TABLE", "TAG_KINDS", "Frame", "pack_frame", "unpack_frame"])).map (·.name)) && (endS hd.heap_1 exF 438 1304 w os g).heap.accountedOkI (importedModules (OpenRow.toRowW (OpenLaw.row PySem.Challenge.rw_pf0386_01)).prog.main.body) && (endS hd.heap_1 exF 438 1304 w os g).heap.isNs mainGlobals && (endS hd.heap_1 exF 438 1304 w os g).heap.isNs builtinsNs && tablesOk qV (endS hd.heap_1 exF 438 1304 w os g).heap && (fun s => xlAt qV [] s && recOk (RowW.records (OpenRow.toRowW (OpenLaw.row PySem.Challenge.rw_pf0386_01))) s) (endS hd.heap_1 exF 438 1304 w os g) && (if true then (endS hd.heap_1 exF 438 1304 w os g).gens.size == 0 else !leftWithCleanup (endS hd.heap_1 exF 438 1304 w os g).gens), tabsOk qV (endS hd.heap_1 exF 438 1304 w os g), pinSeenD qV (drecsOf qV) (endS hd.heap_1 exF 438 1304 w os g)) = (bltViewBooted, true, true, pinGoodD (drecsOf qV)) := by kernel_rfl
theorem look2c (w : World) (os : OsState) (g : Nat → Obj) : (plainSeenE qV (looseW qV ["HALF_TABLE", "TAG_KINDS", "Frame", "pack_frame", "unpack_frame"]) (endS hd.heap_1 exF 438 1304 w os g), plainSeenD qV ["HALF_TABLE", "TAG_KINDS", "Frame", "pack_frame", "unpack_frame"] (endS hd.heap_1 exF 438 1304 w os g), wideSeen qV (endS hd.heap_1 exF 438 1304 w os g), clsSeenW qV ["HALF_TABLE", "TAG_KINDS", "Frame", "pack_frame", "unpack_frame"] (endS hd.heap_1 exF 438 1304 w os g)) = (plainGoodE qV (looseW qV ["HALF_TABLE", "TAG_KINDS", "Frame", "pack_frame", "unpack_frame"]), plainGoodD qV ["HALF_TABLE", "TAG_KINDS", "Frame", "pack_frame", "unpack_frame"], wideGood qV, clsGoodW qV ["HALF_TABLE", "TAG_KINDS", "Frame", "pack_frame", "unpack_frame"]) := by kernel_rfl
theorem four {α β γ δ ε : Type} {a a' : α} {b b' : β} {c c' : γ} {d d' : δ} {e e' : ε} (h : (a, b, c, d) = (a', b', c', d')) (k : e = e') : (a, b, c, d, e) = (a', b', c', d', e') := by
  cases h; cases k; rfl
theorem look2 (w : World) (os : OsState) (g : Nat → Obj) : openSeen qV ["HALF_TABLE", "TAG_KINDS", "Frame", "pack_frame", "unpack_frame"] (importedModules (OpenRow.toRowW (OpenLaw.row PySem.Challenge.rw_pf0386_01)).prog.main.body) (fun s => xlAt qV [] s && recOk (RowW.records (OpenRow.toRowW (OpenLaw.row PySem.Challenge.rw_pf0386_01))) s) true (endS hd.heap_1 exF 438 1304 w os g) = openGood qV ["HALF_TABLE", "TAG_KINDS", "Frame", "pack_frame", "unpack_frame"] := by
  unfold openSeen openGood
  exact congr (congrArg Prod.mk (look2a w os g)) (four (look2b w os g) (look2c w os g))
theorem look3 (w : World) (os : OsState) (g : Nat → Obj) : Hook.obs Hk (endS hd.heap_1 exF 438 1304 w os g) = Hook.val Hk w := by kernel_rfl
theorem open_ok (w : World) : (fencedOpening treeTable PySem.Challenge.pw_pf0386_01 w 15670).map (fun s => (s.heap, s.gens, s.drawn, s.toks)) = some (boot_heap w.params, Array.mk [], boot_drawn, boot_toks) := by kernel_rfl
theorem size_ok (w : World) : ((boot_heap w.params).isNs mainGlobals, (boot_heap w.params).objs.size, (boot_heap w.params).nsMap mainGlobals "__annotations__") = (true, 11, some (.ref 6)) := by kernel_rfl
theorem left_hd : LeftO (OpenRow.toRowW (OpenLaw.row PySem.Challenge.rw_pf0386_01)).prog qV ["HALF_TABLE", "TAG_KINDS", "Frame", "pack_frame", "unpack_frame"] (fun s => xlAt qV [] s && recOk (RowW.records (OpenRow.toRowW (OpenLaw.row PySem.Challenge.rw_pf0386_01))) s) (Hook.obs Hk) (Hook.val Hk) 15670 :=
  left_of (l := sched) (M := 1700) open_ok (by decide +kernel) size_ok way1 way2 way3 look1 look2 look3
end
section
open PySem PySem.W PyProof.Rows PySem.Calls PySem.Spec
section
variable {prog : Program} {w : World} {A : Around} {E : Value → Shared → Prop} {s : Shared}
theorem bs_bytes : typeLookup (.type "bytes") "__bytes__" = pure (some (.builtin "bytes.__bytes__")) := by rw [typeLookup_type, builtinLookup_eq_fast]; kernel_rfl
theorem bs_no_bytes_int : typeLookup (.type "int") "__bytes__" = pure none := by rw [typeLookup_type, builtinLookup_eq_fast]; kernel_rfl
theorem bs_index_int : typeLookup (.type "int") "__index__" = pure (some (.builtin "int.__index__")) := by rw [typeLookup_type, builtinLookup_eq_fast]; kernel_rfl
theorem bs_new {b : Array UInt8} {t : Tok} {Q : Value → Shared → Prop} (h : Q (.bytes b t) s) :
    codeAny (model prog w) A (.call (.builtin "bytes.__new__") ⟨[.type "bytes", .bytes b t], []⟩) (wants Q E) s := by
  refine codeAny_of_tree ?_
  show wpAny _ A.in1 (do checkBuiltinCall "bytes.__new__" ⟨[.type "bytes", .bytes b t], []⟩; again (.builtin "bytes.__new__" ⟨[.type "bytes", .bytes b t], []⟩)) _ _ s
  refine wpAny_bind (wpAny_of_eq (F.bm_newCall _) (wpAny_pure ⟨plainId_quiet F.bm_plain _, codeAny_builtin F.bm_entry ?_⟩))
  rw [Around.under_plainId F.bm_plain _]
  have hT : s.TypeIs (.bytes b t) "bytes" := PySem.W.typeIs_bytes _ _ _
  unfold Builtin.«bytes.__new__»
  refine wpAny_bind (wpAny_of_eq (a := true) rfl ?_)
  refine bm_if_false rfl ?_
  refine wpAny_bind (wpAny_of_eq F.bm_sub ?_)
  refine bm_if_false rfl ?_
  refine wpAny_bind (wpAny_of_eq (F.bm_bind _) ?_)
  refine wpAny_bind (wpAny_of_eq (a := ()) rfl ?_)
  refine wpAny_bind (wpAny_of_eq (a := ()) rfl ?_)
  refine bm_if_false rfl ?_
  refine wpAny_bind (wpAny_specialOf hT bs_bytes ?_)
  first
    | refine wpAny_bind (wpAny_rule ?_)
    | (refine wpAny_bind (wpAny_bind (wpAny_rule ?_)))
  first
    | exact wpAny_pure h
    | exact wpAny_bind (wpAny_pure (wpAny_pure h))
    | exact wpAny_pure (wpAny_pure h)
theorem call_bytes_same {b : Array UInt8} {t : Tok} {Q : Value → Shared → Prop} (h : Q (.bytes b t) s) : wpAny (model prog w) A (call (.type "bytes") [.bytes b t]) Q E s := by
  refine callType_codes (Q₁ := fun obj s₁ => s₁.TypeIs obj "bytes" ∧ Q obj s₁) F.bm_called (F.bm_typeCall _) F.entry_object_init
    (bs_new ⟨PySem.W.typeIs_bytes _ _ _, h⟩) fun obj s₁ h₁ => ?_
  exact ⟨h₁.1, F.args_object_init_2 obj _, object_init_meets F.bm_called.init.lookup F.bm_called.made (by decide) prog w A.in1 _ s₁ ⟨h₁.1, rfl, h₁.2⟩⟩
theorem bz_new {t : Tok} {Q : Value → Shared → Prop} (h : ∀ t' k, Q (.bytes #[] t') { s with toks := k }) :
    codeAny (model prog w) A (.call (.builtin "bytes.__new__") ⟨[.type "bytes", .int 0 t], []⟩) (wants Q E) s := by
  refine codeAny_of_tree ?_
  show wpAny _ A.in1 (do checkBuiltinCall "bytes.__new__" ⟨[.type "bytes", .int 0 t], []⟩; again (.builtin "bytes.__new__" ⟨[.type "bytes", .int 0 t], []⟩)) _ _ s
  refine wpAny_bind (wpAny_of_eq (F.bm_newCall _) (wpAny_pure ⟨plainId_quiet F.bm_plain _, codeAny_builtin F.bm_entry ?_⟩))
  rw [Around.under_plainId F.bm_plain _]
  have hT : s.TypeIs (.int 0 t) "int" := rfl
  unfold Builtin.«bytes.__new__»
  refine wpAny_bind (wpAny_of_eq (a := true) rfl ?_)
  refine bm_if_false rfl ?_
  refine wpAny_bind (wpAny_of_eq F.bm_sub ?_)
  refine bm_if_false rfl ?_
  refine wpAny_bind (wpAny_of_eq (F.bm_bind _) ?_)
  refine wpAny_bind (wpAny_of_eq (a := ()) rfl ?_)
  refine wpAny_bind (wpAny_of_eq (a := ()) rfl ?_)
  refine bm_if_false rfl ?_
  refine wpAny_bind (wpAny_specialOf hT bs_no_bytes_int ?_)
  refine wpAny_bind (wpAny_of_eq (a := false) rfl ?_)
  refine bm_if_false rfl ?_
  refine wpAny_bind (wpAny_specialOf hT bs_index_int ?_)
  refine bm_if_false rfl ?_
  refine wpAny_bind (wpAny_attempt (wpAny_of_eq (rfl : asIndex (.int 0 t) = pure 0) ?_))
  show wpAny _ _ (rule "bytes.__new__.count" >>= _) _ _ _
  refine wpAny_bind (wpAny_rule ?_)
  refine wpAny_bind (wpAny_mkBytes ?_ (by decide))
  first
    | exact wpAny_pure (h _ _)
    | exact wpAny_bind (wpAny_pure (wpAny_pure (h _ _)))
    | exact wpAny_pure (wpAny_pure (h _ _))
theorem call_bytes_zero {t : Tok} {Q : Value → Shared → Prop} (h : ∀ t' k, Q (.bytes #[] t') { s with toks := k }) : wpAny (model prog w) A (call (.type "bytes") [.int 0 t]) Q E s := by
  refine callType_codes (Q₁ := fun obj s₁ => s₁.TypeIs obj "bytes" ∧ Q obj s₁) F.bm_called (F.bm_typeCall _) F.entry_object_init
    (bz_new fun t' k => ⟨PySem.W.typeIs_bytes _ _ _, h t' k⟩) fun obj s₁ h₁ => ?_
  exact ⟨h₁.1, F.args_object_init_2 obj _, object_init_meets F.bm_called.init.lookup F.bm_called.made (by decide) prog w A.in1 _ s₁ ⟨h₁.1, rfl, h₁.2⟩⟩
end
end
section
open PySem PySem.W PyProof.Rows PySem.Calls PySem.Spec
inductive EqvF : Value → Value → Prop
  | same (v : Value) : EqvF v v
  | int (i : Int) (t u : Tok) : EqvF (.int i t) (.int i u)
  | bytes (b : Array UInt8) (t u : Tok) : EqvF (.bytes b t) (.bytes b u)
inductive All2 (R : Value → Value → Prop) : List Value → List Value → Prop
  | nil : All2 R [] []
  | cons {v w : Value} {vs ws : List Value} : R v w → All2 R vs ws → All2 R (v :: vs) (w :: ws)
/-- values that compare equal, tuples nested n deep -/
noncomputable def EqvN (news : List (Addr × Obj)) : Nat → Value → Value → Prop
  | 0 => EqvF
  | n + 1 => fun v u => EqvF v u ∨ ∃ (a b : Addr) (vs ws : List Value), v = .ref a ∧ u = .ref b ∧ (a, ({ cls := .type "tuple", data := .seq vs.toArray } : Obj)) ∈ news ∧ (b, ({ cls := .type "tuple", data := .seq ws.toArray } : Obj)) ∈ news ∧ All2 (EqvN news n) vs ws
noncomputable def EqvA (news : List (Addr × Obj)) (n : Nat) : List Value → List Value → Prop := All2 (EqvN news n)
theorem EqvN.flat {news : List (Addr × Obj)} {v u : Value} (h : EqvF v u) : ∀ n : Nat, EqvN news n v u
  | 0 => h
  | _ + 1 => Or.inl h
theorem EqvN.same {news : List (Addr × Obj)} (n : Nat) (v : Value) : EqvN news n v v := EqvN.flat (.same v) n
theorem EqvN.int {news : List (Addr × Obj)} (n : Nat) (i : Int) (t u : Tok) : EqvN news n (.int i t) (.int i u) := EqvN.flat (.int i t u) n
theorem EqvN.bytes {news : List (Addr × Obj)} (n : Nat) (b : Array UInt8) (t u : Tok) : EqvN news n (.bytes b t) (.bytes b u) := EqvN.flat (.bytes b t u) n
theorem EqvN.tup {news : List (Addr × Obj)} {n : Nat} {a b : Addr} {vs ws : List Value} (ha : (a, ({ cls := .type "tuple", data := .seq vs.toArray } : Obj)) ∈ news) (hb : (b, ({ cls := .type "tuple", data := .seq ws.toArray } : Obj)) ∈ news) (r : EqvA news n vs ws) : EqvN news (n + 1) (.ref a) (.ref b) := Or.inr ⟨a, b, vs, ws, rfl, rfl, ha, hb, r⟩
theorem EqvA.nil {news : List (Addr × Obj)} (n : Nat) : EqvA news n [] [] := All2.nil
theorem EqvA.cons {news : List (Addr × Obj)} {n : Nat} {v w : Value} {vs ws : List Value} (h : EqvN news n v w) (r : EqvA news n vs ws) : EqvA news n (v :: vs) (w :: ws) := All2.cons h r
theorem EqvA.length {news : List (Addr × Obj)} {n : Nat} {vs ws : List Value} (h : EqvA news n vs ws) : vs.length = ws.length := by
  unfold EqvA at h
  induction h with
  | nil => rfl
  | cons _ _ ih => rw [List.length_cons, List.length_cons, ih]
open PySem.SeqAt
theorem eqAt_bytes {A : Around} {s : Shared} (b : Array UInt8) (t u : Tok) : EqAt A s (.bytes b t) (.bytes b u) true := fun prog w E Q h => by
  unfold eqBool
  refine wpAny_holding ?_
  refine wpAny_ite_split (fun _ => ?_) (fun _ => ?_)
  · exact wpAny_bind (wpAny_rule (wpAny_pure h))
  · refine wpAny_bind ?_
    have e : richCompare .Eq (.bytes b t) (.bytes b u) = compareOp .Eq (.bytes b t) (.bytes b u) := rfl
    rw [e]
    exact PySem.W.eq_bytes (wpAny_truthy_bool (by rw [beq_self_eq_true]; exact h))
theorem eqvF {A : Around} {s : Shared} {v u : Value} (h : EqvF v u) : EqAt A s v u true := by
  cases h with
  | same v => exact EqAt.same v
  | int i t u =>
    have e := EqAt.int_int (A := A) (s := s) i t i u
    rw [beq_self_eq_true] at e
    exact e
  | bytes b t u => exact eqAt_bytes b t u
theorem eqvL {R : Value → Value → Prop} {A : Around} {s : Shared} (hR : ∀ v u, R v u → EqAt A s v u true) {vs ws : List Value} (h : All2 R vs ws) : ∀ j (h1 : j < vs.length) (h2 : j < ws.length), EqAt A s vs[j] ws[j] true := by
  induction h with
  | nil => exact fun j h1 => absurd h1 (Nat.not_lt_zero _)
  | cons h _ ih => exact fun j => match j with
    | 0 => fun _ _ => hR _ _ h
    | j + 1 => fun h1 h2 => ih j (Nat.lt_of_succ_lt_succ h1) (Nat.lt_of_succ_lt_succ h2)
theorem eqvAt {news : List (Addr × Obj)} {h₀ : Heap} {L : Addr} {s : Shared} (N : News h₀ L s.heap news) : ∀ {n : Nat} {v u : Value} (A : Around), EqvN news n v u → A.units + n < cLine → EqAt A s v u true
  | 0, _, _, _, h, _ => eqvF h
  | n + 1, _, _, A, h, hu => by
    rcases h with h | ⟨a, b, vs, ws, rfl, rfl, ha, hb, r⟩
    · exact eqvF h
    by_cases hab : a = b
    · subst hab
      exact EqAt.same _
    · have len := EqvA.length r
      have hc := RcAt.tuples (A := A) (s := s) (e := fun _ => true) (items := vs.toArray) (items2 := ws.toArray) ⟨_, (N _ ha).1, rfl, _, rfl⟩ ⟨_, (N _ hb).1, rfl, _, rfl⟩ (Nat.lt_of_le_of_lt (Nat.le_add_right _ _) hu) (fun j h1 h2 => by
        have := eqvL (A := A.in1) (fun v u k => eqvAt N A.in1 k (by rw [units_in1, Nat.add_assoc, Nat.add_comm 1 n]; exact hu)) r j (by simpa using h1) (by simpa using h2)
        simpa using this)
      have e : ((List.range (min vs.toArray.size ws.toArray.size)).all (fun _ => true) && vs.toArray.size == ws.toArray.size) = true := by simp [len]
      rw [e] at hc
      exact EqAt.of_refs hab hc
theorem eqvAll {news : List (Addr × Obj)} {h₀ : Heap} {L : Addr} {s : Shared} (N : News h₀ L s.heap news) {n : Nat} {vs ws : List Value} (A : Around) (h : EqvA news n vs ws) (hu : A.units + n < cLine) : ∀ j (h1 : j < vs.length) (h2 : j < ws.length), EqAt A s vs[j] ws[j] true :=
  eqvL (fun _ _ k => eqvAt N A k hu) h
section
variable {prog : Program} {w : World} {A : Around} {E : Value → Shared → Prop} {s : Shared} {h₀ : Heap} {L : Addr} {news : List (Addr × Obj)} {a b : Addr} {vs ws : List Value} {n : Nat} {Q : Value → Shared → Prop}
theorem eq_tups (N : News h₀ L s.heap news) (ha : (a, ({ cls := .type "tuple", data := .seq vs.toArray } : Obj)) ∈ news) (hb : (b, ({ cls := .type "tuple", data := .seq ws.toArray } : Obj)) ∈ news) (r : EqvA news n vs ws) (hu : A.units + 1 + n < cLine)
    (h : Q (.bool true) s) : wpAny (model prog w) A (compareOp .Eq (.ref a) (.ref b)) Q E s := by
  have hc := RcAt.tuples (A := A) (s := s) (e := fun _ => true) (items := vs.toArray) (items2 := ws.toArray) ⟨_, (N _ ha).1, rfl, _, rfl⟩ ⟨_, (N _ hb).1, rfl, _, rfl⟩ (by (first | lia | omega)) (fun j h1 h2 => by
    have := eqvAll N A.in1 r (by show A.units + 1 + n < cLine; (first | lia | omega)) j (by simpa using h1) (by simpa using h2)
    simpa using this)
  have e : ((List.range (min vs.toArray.size ws.toArray.size)).all (fun _ => true) && vs.toArray.size == ws.toArray.size) = true := by simp [r.length]
  rw [e] at hc
  exact hc prog w E Q h
theorem ne_tups (N : News h₀ L s.heap news) (ha : (a, ({ cls := .type "tuple", data := .seq vs.toArray } : Obj)) ∈ news) (hb : (b, ({ cls := .type "tuple", data := .seq ws.toArray } : Obj)) ∈ news) (r : EqvA news n vs ws) (hu : A.units + 1 + n < cLine)
    (h : Q (.bool false) s) : wpAny (model prog w) A (compareOp .NotEq (.ref a) (.ref b)) Q E s := by
  have hc := RcNeAt.tuples (A := A) (s := s) (e := fun _ => true) (items := vs.toArray) (items2 := ws.toArray) ⟨_, (N _ ha).1, rfl, _, rfl⟩ ⟨_, (N _ hb).1, rfl, _, rfl⟩ (by (first | lia | omega)) (fun j h1 h2 => by
    have := eqvAll N A.in1 r (by show A.units + 1 + n < cLine; (first | lia | omega)) j (by simpa using h1) (by simpa using h2)
    simpa using this)
  have e : (!((List.range (min vs.toArray.size ws.toArray.size)).all (fun _ => true) && vs.toArray.size == ws.toArray.size)) = false := by simp [r.length]
  rw [e] at hc
  exact hc prog w E Q h
/-- tuples of other lengths, the first one empty or the second -/
theorem eq_tups_nil (N : News h₀ L s.heap news) (ha : (a, ({ cls := .type "tuple", data := .seq vs.toArray } : Obj)) ∈ news) (hb : (b, ({ cls := .type "tuple", data := .seq ([] : List Value).toArray } : Obj)) ∈ news) (hu : A.units < cLine)
    (h : Q (.bool (decide (vs = []))) s) : wpAny (model prog w) A (compareOp .Eq (.ref a) (.ref b)) Q E s := by
  have hc := RcAt.tuples (A := A) (s := s) (e := fun _ => true) (items := vs.toArray) (items2 := ([] : List Value).toArray) ⟨_, (N _ ha).1, rfl, _, rfl⟩ ⟨_, (N _ hb).1, rfl, _, rfl⟩ hu (fun j h1 h2 => absurd h2 (Nat.not_lt_zero _))
  have e : ((List.range (min vs.toArray.size ([] : List Value).toArray.size)).all (fun _ => true) && vs.toArray.size == ([] : List Value).toArray.size) = decide (vs = []) := by cases vs <;> simp
  rw [e] at hc
  exact hc prog w E Q h
theorem ne_tups_nil (N : News h₀ L s.heap news) (ha : (a, ({ cls := .type "tuple", data := .seq vs.toArray } : Obj)) ∈ news) (hb : (b, ({ cls := .type "tuple", data := .seq ([] : List Value).toArray } : Obj)) ∈ news) (hu : A.units < cLine)
    (h : Q (.bool (!decide (vs = []))) s) : wpAny (model prog w) A (compareOp .NotEq (.ref a) (.ref b)) Q E s := by
  have hc := RcNeAt.tuples (A := A) (s := s) (e := fun _ => true) (items := vs.toArray) (items2 := ([] : List Value).toArray) ⟨_, (N _ ha).1, rfl, _, rfl⟩ ⟨_, (N _ hb).1, rfl, _, rfl⟩ hu (fun j h1 h2 => absurd h2 (Nat.not_lt_zero _))
  have e : (!((List.range (min vs.toArray.size ([] : List Value).toArray.size)).all (fun _ => true) && vs.toArray.size == ([] : List Value).toArray.size)) = !decide (vs = []) := by cases vs <;> simp
  rw [e] at hc
  exact hc prog w E Q h
end
end
section
open PySem PySem.W PyProof.Rows PySem.Calls PySem.Spec
section
variable {prog : Program} {w : World} {A : Around} {E : Value → Shared → Prop} {s : Shared} {h₀ : Heap} {L : Addr} {m : Str → Option Value} {env : Env}
/-- a comprehension's turns, by what holds between them -/
theorem compRest_inv {elt : PySem.Expr} {x : Str} {scope : Scope} {cl : List (Str × Addr)} {S : List (Addr × Obj) → Prop} {P : Nat → Value → Prop} {Fin : List Value → List (Addr × Obj) → Prop} {n : Nat} (J : Nat → List Value → List (Addr × Obj) → Prop)
    (turn : ∀ i ys news v (R : Value → List (Addr × Obj) → Prop), i < n → J i ys news → P i v → (∀ y news', J (i + 1) (ys ++ [y]) news' → R y news') → ∀ I oI C oC D m₂ h tk (E' : Value → Shared → Prop), LCg.NsObj oC m₂ → m₂ x = some v → Fr h₀ L h m →
      News h₀ L h ((I, oI) :: (C, oC) :: (D, LCg.lst ys) :: news) → LCg.Off3 I C D news → ((@Ne Nat I C) ∧ (@Ne Nat I D) ∧ (@Ne Nat C D)) →
      wpAny (model prog w) A (eval elt (compEnvC scope cl C env)) (LCg.CompEnd h₀ L m { s with heap := h, toks := tk } I oI C oC D (LCg.lst ys) S R) E' { s with heap := h, toks := tk })
    (done : ∀ ys news, J n ys news → Fin ys news) : ∀ (k i : Nat) (ys : List Value) (news : List (Addr × Obj)), i + k = n → J i ys news → LCg.CompRest prog w A h₀ L m env elt x scope cl s S P Fin k i ys news
  | 0, i, ys, news, e, h => done ys news (by have : i = n := by (first | lia | omega)
                                             exact this ▸ h)
  | k + 1, i, ys, news, e, h => fun v I oI C oC D m₂ h' tk E' hP hN hx F N off ne =>
    turn i ys news v _ (by (first | lia | omega)) h hP (fun y news' hJ => compRest_inv J turn done k (i + 1) (ys ++ [y]) news' (by (first | lia | omega)) hJ) I oI C oC D m₂ h' tk E' hN hx F N off ne
noncomputable def TupSrc (prog : Program) (w : World) (A : Around) (h₀ : Heap) (L : Addr) (m : Str → Option Value) (env : Env) (elt : PySem.Expr) (x : Str) (scope : Scope) (cl : List (Str × Addr)) (Q : Value → Shared → Prop) (xv : Value) (s₁ : Shared) : Prop :=
  ∃ (ax : Addr) (its : List Value) (news : List (Addr × Obj)), xv = .ref ax ∧ A.handled = none ∧ Fr h₀ L s₁.heap m ∧ News h₀ L s₁.heap news ∧ (ax, ({ cls := .type "tuple", data := .seq its.toArray } : Obj)) ∈ news ∧ its.length ≤ sizeLine ∧
      ∀ g, LCg.CompRest prog w A h₀ L m env elt x scope cl { s₁ with heap := g } (fun nw => (ax, ({ cls := .type "tuple", data := .seq its.toArray } : Obj)) ∈ nw) (fun i v => its[i]? = some v) (LCg.FinE h₀ L m { s₁ with heap := g } Q) its.length 0 [] news
/-- a comprehension over a tuple of the ledger -/
theorem ListComp_tup {elt iter : PySem.Expr} {x : Str} {px : Pos} {scope : Scope} {cl : List (Str × Addr)} {pos : Pos} {Q : Value → Shared → Prop} (_F₀ : Fr h₀ L s.heap m)
    (hclos : closureFor scope env = pure cl) (hcell : ∀ y ∈ scope.names, y.2 ≠ .cell) (hkind : scope.kind = .function)
    (hnames : ∀ y ∈ scope.names, y.2 = .local → scope.names.lookup y.1 = some .local) (hx : scope.names.lookup x = some .local)
    (h : wpAny (model prog w) A (eval iter env) (TupSrc prog w A h₀ L m env elt x scope cl Q) E s)
    (hs : ∀ x, foldedSetIterable iter env x = pure x := by intro _; rfl) :
    wpAny (model prog w) A (eval (.ListComp elt [⟨.Name x px, iter, [], 0⟩] scope pos) env) Q E s := by
  rw [eval_ListComp]
  refine wpAny_comprehension_free (use := none) rfl hs hclos hkind hnames (wpAny_mono h (fun xv s₁ h₁ => ?_) fun _ _ e => e)
  obtain ⟨ax, its, news, rfl, hh, F, N, hm, hsz, R⟩ := h₁
  have hl : s₁.heap.IsTuple ax its.toArray := ⟨_, (N _ hm).1, rfl, _, rfl⟩
  have hlt : ax < s₁.heap.objs.size := Heap.lt_size (N _ hm).1
  refine wpAny_pyIter_tuple hl ?_
  have up : ∀ (o' : Obj) b o, s₁.heap.get? b = some o → (s₁.heap.push o').get? b = some o := fun o' b o e => Heap.get?_push_of_some _ e
  refine LCg.block_U (W := Walks.tuple hh s₁.heap.objs.size ax (Nat.ne_of_lt hlt) its.toArray) (S := fun nw => (ax, ({ cls := .type "tuple", data := .seq its.toArray } : Obj)) ∈ nw) (by simpa using hsz) (fun i h st => by obtain ⟨o, e, _⟩ := st.1; exact ⟨o, e⟩)
    (fun i h h' o nw st e e' k N S => ⟨by obtain ⟨o', q, r⟩ := st.1; rw [e] at q; cases q; exact ⟨o, e', r⟩, ⟨_, (N _ S).1, rfl, _, rfl⟩⟩) hcell hkind hx ⟨⟨_, Heap.get?_push_size _ rfl, rfl, rfl⟩, ⟨_, Heap.get?_push_of_some _ (N _ hm).1, rfl, _, rfl⟩⟩ (fun b hb => ?_)
    (F.keeps (up _)) (N.grown (up _)) (Nat.ne_of_lt F.ns.lt) (next_is_new F) (fun p hp => Nat.ne_of_lt (Heap.lt_size (N p hp).1)) hm (by simpa using R _) ?_
  · show b < (s₁.heap.push _).objs.size
    rw [Heap.size_push]
    rcases List.mem_cons.mp hb with rfl | hb
    · exact Nat.lt_succ_self _
    · rw [List.mem_singleton.mp hb]; exact Nat.lt_succ_of_lt hlt
  · intro D C h tk m' ys news' F' N' o1 hn hC₀ hD₀ hCL hDL hCD offC fin
    refine ⟨m', hn, fun h'' hs'' => fin D h'' tk (F'.change hs'' hCL hC₀) (fun p hp => ?_) o1⟩
    refine ⟨hs''.extBut _ _ ?_ (N' p hp).1, (N' p hp).2⟩
    rcases List.mem_cons.mp hp with rfl | hp
    · exact Ne.symm hCD
    · exact offC p hp
theorem compEnd_push {I C D y : Addr} {oI oC oD o : Obj} {s₁ : Shared} {S : List (Addr × Obj) → Prop} {rest : Value → List (Addr × Obj) → Prop} {v : Value} {h' : Heap} {tk : Nat} {news : List (Addr × Obj)}
    (F : Fr h₀ L h' m) (N : News h₀ L h' ((y, o) :: (I, oI) :: (C, oC) :: (D, oD) :: news)) (hy : ∀ q ∈ (I, oI) :: (C, oC) :: (D, oD) :: news, @LT.lt Nat _ q.1 y) (off : LCg.Off3 I C D news) (hS : S ((y, o) :: news)) (r : rest v ((y, o) :: news)) :
    LCg.CompEnd h₀ L m s₁ I oI C oC D oD S rest v { s₁ with heap := h', toks := tk } :=
  LCg.CompEnd.intro F N ((y, o) :: news) (fun q hq => by
    rcases List.mem_cons.mp hq with h | hq
    · subst h; simp
    rcases List.mem_cons.mp hq with h | hq
    · subst h; simp
    rcases List.mem_cons.mp hq with h | hq
    · subst h; simp
    rcases List.mem_cons.mp hq with h | hq
    · subst h; simp
    · simp [hq]) ⟨⟨Nat.ne_of_gt (hy _ (.head _)), Nat.ne_of_gt (hy _ (.tail _ (.head _))), Nat.ne_of_gt (hy _ (.tail _ (.tail _ (.head _))))⟩, off⟩ hS r
theorem tupleOf_ys {D : Addr} {ys : List Value} {k : Nat} {news : List (Addr × Obj)} {Q : Value → Shared → Prop} (F : Fr h₀ L s.heap m) (N : News h₀ L s.heap news) (hm : (D, ({ cls := .type "list", data := .seq ys.toArray k } : Obj)) ∈ news) (hz : ys.length ≤ 16384)
    (h : ∀ T h', Fr h₀ L h' m → News h₀ L h' ((T, ({ cls := .type "tuple", data := .seq ys.toArray } : Obj)) :: news) → (∀ p ∈ news, p.1 < T) → Q (.ref T) { s with heap := h' }) : wpAny (model prog w) A (call (.type "tuple") [.ref D]) Q E s :=
  kde_tupleOf F N (items := ys.toArray) ⟨_, (N _ hm).1, rfl, _, rfl⟩ (by simpa using hz) (by simp) h
end
end
section
open PySem PySem.W PyProof.Rows PySem.Calls PySem.Spec
section
variable {prog : Program} {w : World} {A : Around} {E : Value → Shared → Prop} {s : Shared} {h₀ : Heap} {L : Addr} {m : Str → Option Value} {env : Env}
theorem rng_walks {I : Addr} (hh : A.handled = none) (a c : Int) (n : Nat) : Walks prog w A I [I] [I] n (fun i v => i < n ∧ ∃ t, v = .int (a + (i : Int) * c) t) (fun i h => IsRangeIter h I (a + (i : Nat) * c) ((n : Int) - (i : Nat)) c) :=
  let W : Walks prog w A I [I] [I] n (fun i v => i < n ∧ ∃ t, v = .int (a + i * c) t) (fun i h => IsRangeIter h I (a + (i : Nat) * c) ((n : Int) - (i : Nat)) c) := (Walks.range hh I a c n).bound
  W
theorem rng_st {I : Addr} {a c : Int} {n : Nat} : ∀ i (h h' : Heap) (o : Obj) (nw : List (Addr × Obj)), IsRangeIter h I (a + (i : Nat) * c) ((n : Int) - (i : Nat)) c → h.get? I = some o → h'.get? I = some o → (∀ b o, h₀.get? b = some o → h'.get? b = some o) → News h₀ L h' nw → True → IsRangeIter h' I (a + (i : Nat) * c) ((n : Int) - (i : Nat)) c :=
  fun i h h' o nw st e e' _ _ _ => by
    have st' : h.get? I = some _ := st
    show h'.get? I = some _
    rw [e', ← e]; exact st'
noncomputable def RngSrc (prog : Program) (w : World) (A : Around) (h₀ : Heap) (L : Addr) (m : Str → Option Value) (env : Env) (elt : PySem.Expr) (x : Str) (scope : Scope) (cl : List (Str × Addr)) (Q : Value → Shared → Prop) (xv : Value) (s₁ : Shared) : Prop :=
  ∃ (r : Addr) (a b c : Int) (t u v : Tok) (n : Nat) (news : List (Addr × Obj)), xv = .ref r ∧ A.handled = none ∧ Fr h₀ L s₁.heap m ∧ News h₀ L s₁.heap news ∧ IsRange s₁.heap r a b c t u v ∧ Builtin.Range.small a b c = true ∧ Builtin.Range.rangeSize a b c = ((n : Nat) : Int) ∧ n ≤ sizeLine ∧
      ∀ g, LCg.CompRest prog w A h₀ L m env elt x scope cl { s₁ with heap := g } (fun _ => True) (fun i v => i < n ∧ ∃ t, v = .int (a + (i : Int) * c) t) (LCg.FinE h₀ L m { s₁ with heap := g } Q) n 0 [] news
theorem ListComp_rng {elt iter : PySem.Expr} {x : Str} {px : Pos} {scope : Scope} {cl : List (Str × Addr)} {pos : Pos} {Q : Value → Shared → Prop} (_F₀ : Fr h₀ L s.heap m)
    (hclos : closureFor scope env = pure cl) (hcell : ∀ y ∈ scope.names, y.2 ≠ .cell) (hkind : scope.kind = .function)
    (hnames : ∀ y ∈ scope.names, y.2 = .local → scope.names.lookup y.1 = some .local) (hx : scope.names.lookup x = some .local)
    (h : wpAny (model prog w) A (eval iter env) (RngSrc prog w A h₀ L m env elt x scope cl Q) E s)
    (hs : ∀ x, foldedSetIterable iter env x = pure x := by intro _; rfl) :
    wpAny (model prog w) A (eval (.ListComp elt [⟨.Name x px, iter, [], 0⟩] scope pos) env) Q E s := by
  rw [eval_ListComp]
  refine wpAny_comprehension_free (use := none) rfl hs hclos hkind hnames (wpAny_mono h (fun xv s₁ h₁ => ?_) fun _ _ e => e)
  obtain ⟨r, a, b, c, t, u, v, n, news, rfl, hh, F, N, hr, hsm, hn, hsz, R⟩ := h₁
  refine wpAny_pyIter_range hr hsm ?_
  refine LCg.block_U (rng_walks hh a c n) hsz (fun i h st => ⟨_, st⟩) rng_st hcell hkind hx (by show IsRangeIter _ _ _ _ _; rw [hn]; simpa using Heap.get?_push_size _ rfl) (fun b hb => ?_)
    (F.keeps fun _ _ e => Heap.get?_push_of_some _ e) (N.grown fun _ _ e => Heap.get?_push_of_some _ e) (Nat.ne_of_lt F.ns.lt) (next_is_new F) (fun p hp => Nat.ne_of_lt (Heap.lt_size (N p hp).1)) trivial (R _) ?_
  · rw [List.mem_singleton.mp hb]
    show s₁.heap.objs.size < (s₁.heap.push _).objs.size
    rw [Heap.size_push]; exact Nat.lt_succ_self _
  · intro D C h tk m' ys news' F' N' o1 hn hC₀ hD₀ hCL hDL hCD offC fin
    refine ⟨m', hn, fun h'' hs'' => fin D h'' tk (F'.change hs'' hCL hC₀) (fun p hp => ?_) o1⟩
    refine ⟨hs''.extBut _ _ ?_ (N' p hp).1, (N' p hp).2⟩
    rcases List.mem_cons.mp hp with rfl | hp
    · exact Ne.symm hCD
    · exact offC p hp
end
end
section
open PySem PySem.W PyProof.Rows PySem.Calls PySem.Spec
set_option maxRecDepth 100000
theorem slot_join : Slot "bytes" "join" "bytes.join" :=
  .of (owner := "bytes") (n := "join") (by rw [typeLookup_type, builtinLookup_eq_fast]; kernel_rfl) (by decide +kernel) (by decide +kernel) (by decide +kernel)
    (by first | exact .inl (by decide +kernel) | exact .inr (by decide +kernel)) (by rw [isSubtype_type]; kernel_rfl)
theorem type_join : typeOf (.builtin "bytes.join") = pure (.type "method_descriptor") := by show builtinType _ = _; rw [builtinType_eq_fast]; kernel_rfl
theorem entry_join : entryFor table "bytes.join" = some Builtin.«bytes.join» := entryFor_of_tree (by kernel_rfl)
theorem args_join (a b : Value) : argsOk "bytes.join" ⟨[a, b], []⟩ := by unfold argsOk; kernel_rfl
theorem take_eq {b : Array UInt8} {t : Tok} {id : String} : Builtin.Bytes.takeBuffer? id (.bytes b t) 0 = pure (some (b, none)) := by
  unfold Builtin.Bytes.takeBuffer?
  have e : ((0 : Int) == Builtin.Bytes.fullReadOnly) = false := by decide +kernel
  rw [KBy.special_eq KBy.look_buffer, KBy.own_buffer, e, KBy.buffer_eq]
  kernel_rfl
theorem takeQuiet_eq {b : Array UInt8} {t : Tok} {id : String} : Builtin.Bytes.takeBufferQuiet? id (.bytes b t) 0 = pure (some (b, none)) := by
  unfold Builtin.Bytes.takeBufferQuiet?
  rw [take_eq]
  rfl
theorem method_join {M : Model} {A : Around} {E : Value → Shared → Prop} {s : Shared} {b : Array UInt8} {t : Tok} {pl : Sem Bool} {Q : Value × List Value → Shared → Prop} (h : Q (.builtin "bytes.join", [.bytes b t]) s) : wpAny M A (getMethod (.bytes b t) "join" pl) Q E s := by
  with_reducible exact KBd.method_of (.bytes b t) (typeIs_bytes _ _ _) slot_join type_join KBd.noRef h
noncomputable def bvs (l : List (Array UInt8 × Tok)) : List Value := l.map fun p => .bytes p.1 p.2
theorem joined_fold (out : Array UInt8) (parts : List (Array UInt8)) (n : Nat) : (parts.zipIdx n).foldl (fun out (p, i) => (if i > 0 then out ++ (#[] : Array UInt8) else out) ++ p) out = parts.foldl (· ++ ·) out := by
  induction parts generalizing out n with
  | nil => rfl
  | cons p r ih =>
    rw [List.zipIdx_cons, List.foldl_cons, List.foldl_cons, ih]
    congr 1
    dsimp only
    split <;> simp
theorem bInts_fold (out : Array UInt8) (parts : List (Array UInt8)) : KBw.bInts (parts.foldl (· ++ ·) out) = KBw.bInts out ++ (parts.map KBw.bInts).flatten := by
  induction parts generalizing out with
  | nil => simp
  | cons p r ih => rw [List.foldl_cons, ih, KBw.ints_app rfl rfl, List.map_cons, List.flatten_cons, List.append_assoc]
section
variable {prog : Program} {w : World} {A : Around} {E : Value → Shared → Prop} {s : Shared} {D : Addr} {l : List (Array UInt8 × Tok)} {t : Tok} {Q : Value → Shared → Prop}
theorem jm_other {C : Type} {items : Array Value} {f : Value → C} {g : Array Value → C} (h : items.size ≠ 1) : Builtin.Bytes.joinM.match_1 (fun _ => C) items f g = g items := by
  unfold Builtin.Bytes.joinM.match_1
  rw [dif_neg h]
theorem jm_one {C : Type} {x : Value} {f : Value → C} {g : Array Value → C} : Builtin.Bytes.joinM.match_1 (fun _ => C) (List.toArray [x]) f g = f x := rfl
theorem joinItems_list {M : Model} {A : Around} {P : Value → Shared → Prop} {items : Array Value} (hl : s.heap.IsList D items) (h : P (.ref D) s) : wpAny M A (Builtin.Bytes.joinItems (.ref D)) P E s := by
  unfold Builtin.Bytes.joinItems
  refine wpAny_bind (wpAny_typeOf hl.typeIs ?_)
  rw [if_pos (by decide)]
  exact wpAny_pure h
theorem joinLetGo_bytes {M : Model} {A : Around} {P : Unit → Shared → Prop} {keep : List Value} (h : P () s) : ∀ l : List (Array UInt8 × Tok), wpAny M A (Builtin.Bytes.joinLetGo (l.map fun p => (Value.bytes p.1 p.2, none)) keep) P E s
  | [] => wpAny_pure h
  | p :: r => by
    rw [List.map_cons]
    unfold Builtin.Bytes.joinLetGo
    dsimp only
    exact wpAny_bind (wpAny_letGo (joinLetGo_bytes h r))
theorem foldl_sizes (l : List (Array UInt8)) (n : Nat) : l.foldl (fun x1 x2 => x1 + x2.size) n = n + (l.map (·.size)).sum := by
  induction l generalizing n with
  | nil => simp
  | cons a r ih => rw [List.foldl_cons, ih, List.map_cons, List.sum_cons]; (first | lia | omega)
theorem joined_size (l : List (Array UInt8)) (o : Array UInt8) : (l.foldl (· ++ ·) o).size = o.size + (l.map (·.size)).sum := by
  induction l generalizing o with
  | nil => simp
  | cons a r ih => rw [List.foldl_cons, ih, List.map_cons, List.sum_cons, Array.size_append]; (first | lia | omega)
theorem join_led (hl : s.heap.IsList D (bvs l).toArray) (hz : ((l.map fun p => p.1.size).sum) ≤ 16777216)
    (h : ∀ b' t' k, KBw.bInts b' = (l.map fun p => KBw.bInts p.1).flatten → Q (.bytes b' t') { s with toks := k }) : wpAny (model prog w) A (call (.builtin "bytes.join") [.bytes #[] t, .ref D]) Q E s := by
  obtain ⟨o, ho, hc, n, hd⟩ := id hl
  refine wpAny_call (codeAny_call_builtin slot_join.plain entry_join (slot_join.check _ _ _ _ _ _ _ _ (typeIs_bytes _ _ _) (args_join _ _) ?_))
  show wpAny _ _ (Builtin.Bytes.joinM .bytes ⟨[.bytes #[] t, .ref D], []⟩) _ _ s
  unfold Builtin.Bytes.joinM
  refine wpAny_bind (wpAny_of_eq (a := (.bytes #[] t, .ref D)) rfl ?_)
  dsimp only
  refine wpAny_bind (joinItems_list hl ?_)
  refine wpAny_bind (wpAny_seqItems ho hd ?_)
  dsimp only
  rw [if_pos (by decide)]
  by_cases h1 : l.length = 1
  · obtain ⟨p, rfl⟩ := List.length_eq_one_iff.mp h1
    have e : (bvs [p]).toArray = List.toArray [Value.bytes p.1 p.2] := rfl
    rw [e, jm_one]
    refine wpAny_bind (wpAny_of_eq (a := .type "bytes") rfl ?_)
    rw [if_pos (by decide)]
    refine wpAny_bind (wpAny_rule ?_)
    exact wpAny_pure (h _ _ s.toks (by simp))
  · have hsz : (bvs l).toArray.size = l.length := by simp [bvs]
    rw [jm_other (by rw [hsz]; exact h1), Std.Legacy.Range.forIn_eq_forIn_range']
    simp only [Std.Legacy.Range.size, Nat.sub_zero, Nat.add_sub_cancel, Nat.div_one, hsz]
    refine wpAny_bind (wpAny_forIn_list _ (fun is b s' => s' = s ∧ ∃ k, is = List.range' k (l.length - k) ∧ k ≤ l.length ∧ b.1 = ((l.take k).map (·.1)).toArray ∧ b.2 = (l.take k).map fun p => (Value.bytes p.1 p.2, none)) _ ?_ ?_ _ _ ⟨rfl, 0, rfl, Nat.zero_le _, rfl, rfl⟩)
    · rintro i is ⟨b1, b2⟩ s' ⟨rfl, k, hk, hkl, hb1, hb2⟩
      dsimp only at hb1 hb2
      have hlt : k < l.length := by
        rcases Nat.lt_or_ge k l.length with h9 | h9
        · exact h9
        · rw [Nat.sub_eq_zero_of_le h9] at hk; simp at hk
      have e9 : l.length - k = (l.length - (k + 1)) + 1 := by (first | lia | omega)
      rw [e9, List.range'_succ, List.cons.injEq] at hk
      obtain ⟨rfl, rfl⟩ := hk
      refine wpAny_bind (wpAny_seqItems ho hd ?_)
      dsimp only
      have hheap : ¬ ((Builtin.Bytes.Kind.bytes == Builtin.Bytes.Kind.bytearray || b2.any fun x => x.fst.onHeap) = true) := by
        rw [hb2]
        simp only [Bool.or_eq_true, List.any_map, List.any_eq_true, not_or, not_exists, not_and]
        exact ⟨by decide, fun x _ => by simp [Value.onHeap]⟩
      rw [if_neg hheap]
      have hx : (bvs l).toArray.getD i .none = .bytes l[i].1 l[i].2 := by simp [bvs, hlt]
      rw [hx]
      refine wpAny_bind (wpAny_holding (wpAny_of_eq takeQuiet_eq ?_))
      dsimp only
      refine wpAny_bind (wpAny_seqItems ho hd ?_)
      dsimp only
      rw [if_neg (by simp [bvs])]
      refine wpAny_pure ⟨rfl, i + 1, rfl, hlt, ?_, ?_⟩
      · dsimp only; rw [hb1, List.take_add_one, List.map_append]; simp [hlt]
      · dsimp only; rw [hb2, List.take_add_one, List.map_append]; simp [hlt]
    · rintro ⟨b1, b2⟩ s' ⟨rfl, k, hk, hkl, hb1, hb2⟩
      dsimp only at hb1 hb2
      have hkk : k = l.length := by
        rcases Nat.lt_or_ge k l.length with h9 | h9
        · have e9 : l.length - k = (l.length - (k + 1)) + 1 := by (first | lia | omega)
          rw [e9, List.range'_succ] at hk; cases hk
        · (first | lia | omega)
      subst hkk
      rw [List.take_length] at hb1 hb2
      subst hb1 hb2
      refine wpAny_bind (wpAny_of_eq (a := (#[] : Array UInt8)) rfl ?_)
      have hm : (l.map (·.1)).map (·.size) = l.map fun p => p.1.size := by rw [List.map_map]; rfl
      rw [if_neg (by
        simp only [List.size_toArray, List.length_nil, Nat.zero_mul]
        have e9 : Array.foldl (fun x1 x2 => x1 + x2.size) 0 (l.map (·.1)).toArray 0 (l.map (·.1)).length = (l.map (·.1)).foldl (fun x1 x2 => x1 + x2.size) 0 := List.foldl_toArray' _ _ _ (by simp)
        rw [e9, foldl_sizes, hm, KBy.tooLong_not (by (first | lia | omega))]
        exact Bool.false_ne_true)]
      have hj : Builtin.Bytes.joined #[] (l.map (·.1)) = (l.map (·.1)).foldl (· ++ ·) #[] := joined_fold _ _ _
      dsimp only
      rw [hj]
      refine wpAny_bind (wpAny_mkBytes ?_ (by rw [joined_size, hm, sizeLine_eq]; simp; (first | lia | omega)))
      refine wpAny_bind (wpAny_holding (wpAny_point ?_))
      refine wpAny_bind (joinLetGo_bytes ?_ l)
      exact wpAny_pure (h _ _ _ (by rw [bInts_fold, List.map_map]; rfl))
theorem join_ledR {fl : List (List Int)} (hl : s.heap.IsList D (bvs l).toArray) (hz : ((l.map fun p => p.1.size).sum) ≤ 16777216) (e : (l.map fun p => KBw.bInts p.1) = fl)
    (h : ∀ b' t' k, KBw.bInts b' = fl.flatten → Q (.bytes b' t') { s with toks := k }) : wpAny (model prog w) A (call (.builtin "bytes.join") [.bytes #[] t, .ref D]) Q E s := join_led hl hz (e ▸ h)
end
end
section
open PySem PySem.W PyProof.Rows PySem.Calls PySem.Spec
section
variable {prog : Program} {w : World} {A : Around} {E : Value → Shared → Prop} {s : Shared} {env : Env} {h₀ : Heap} {x : PySem.Str} {body : List Stmt} {Q : Flow → Shared → Prop} {b : Array UInt8} {tb : Tok} {ks : List Int}
  {m₀ : PySem.Str → Option Value} {news : List (Addr × Obj)}
theorem iterBytes_accN {y : PySem.Str} {c₀ : Int} {tc : Tok} (g : Int → Int → Int)
    (hk : KBw.bInts b = ks) (hh : A.handled = none) (F : Fr h₀ env.locals s.heap m₀) (N : News h₀ env.locals s.heap news) (hy : m₀ y = some (.int c₀ tc))
    (turn : ∀ i k t a ta h tk own, ks[i]? = some k → 0 ≤ k → k < 256 → a = (ks.take i).foldl g c₀ → OwnOff own (news.map (·.1)) → Fr h₀ env.locals h (fun z => if z = x then some (.int k t) else if z = y then some (.int a ta) else m₀ z) → News h₀ env.locals h (news ++ own) →
      wpAny (model prog w) A (execs body env) (InvPostN h₀ env.locals (fun m' nx => nx = news ∧ (∃ t', m' y = some (.int (g a k) t')) ∧ ∀ z, z ≠ x → z ≠ y → m' z = m₀ z) own (news.map (·.1)) { s with heap := h, toks := tk } Q) E { s with heap := h, toks := tk })
    (done : ∀ (u : PySem.Str → Option Value) t h tk, Fr h₀ env.locals h (fun z => if z = x then u z else if z = y then some (.int (ks.foldl g c₀) t) else m₀ z) → News h₀ env.locals h news → Q .next { s with heap := h, toks := tk }) :
    wpAny (model prog w) A (pyIter (.bytes b tb)) (fun it s₂ => LoopAtV prog w A h₀ env x body Q E it s₂) E s := by
  refine KBmo.iter_bytesN (fun i m nx => nx = news ∧ (∃ t, m y = some (.int ((ks.take i).foldl g c₀) t)) ∧ ∀ z, z ≠ x → z ≠ y → m z = m₀ z) hk hh F N ⟨rfl, ⟨tc, hy⟩, fun _ _ _ => rfl⟩ ?_ ?_
  · rintro i k t m₁ nx h tk own hi h0 h1 hoff ⟨rfl, ⟨ta, ha⟩, hm⟩ F₁ N₁
    rw [map_one ha hm] at F₁
    have e : (ks.take (i + 1)).foldl g c₀ = g ((ks.take i).foldl g c₀) k := by
      rw [List.take_add_one, hi, List.foldl_append]; rfl
    rw [e]
    exact turn i k t _ ta h tk own hi h0 h1 rfl hoff F₁ N₁
  · rintro m₁ nx h tk ⟨rfl, ⟨t, ha⟩, hm⟩ F₁ N₁
    rw [List.take_length] at ha
    refine done m₁ t h tk ?_ N₁
    rw [done_one ha hm]; exact F₁
end
section
variable {prog : Program} {w : World} {A : Around} {E : Value → Shared → Prop} {s : Shared} {value slice : PySem.Expr} {b : Array UInt8} {t u1 u2 : Tok} {h₀ : Heap} {L : Addr} {m : PySem.Str → Option Value} {news : List (Addr × Obj)} {Q : Value → Shared → Prop} {ks : List Int} {lo hi : Int}
theorem slice_oct (F : Fr h₀ L s.heap m) (N : News h₀ L s.heap news) (hk : KBw.bInts b = ks) (h0 : 0 ≤ lo) (h1 : lo ≤ hi) (h2 : hi ≤ ks.length) (hz : ks.length ≤ 5000)
    (h : ∀ b' h' t' k, Fr h₀ L h' m → News h₀ L h' news → KBw.bInts b' = (ks.drop lo.toNat).take (hi - lo).toNat → Q (.bytes b' t') { s with heap := h', toks := k })
    (hs : subscripted slice false (.bytes b t) (.ref s.heap.objs.size) = operate [.ref s.heap.objs.size, .bytes b t] (getItem (.bytes b t) (.ref s.heap.objs.size)) := by with_unfolding_all rfl)
    (ht : ∀ r, letTemporaryGo value (.bytes b t) r = pure () := by intro _; with_unfolding_all rfl) :
    wpAny (model prog w) A (subscriptTail value slice (.bytes b t) (.ref s.heap.objs.size)) Q E { s with heap := s.heap.push { cls := .type "slice", data := .fields #[.int lo u1, .int hi u2, .none] } } :=
  KBc.slice_K (lo := some lo) (hi := some hi) F N hk (by constructor) (by constructor) (by (first | lia | omega)) (fun h' t' k F' N' e => h _ h' t' k F' N' (by
    rw [e]
    have e1 : clipAt ks.length lo = lo.toNat := by
      have : lo = ((lo.toNat : Nat) : Int) := by (first | lia | omega)
      rw [this, clipAt_nat]; (first | lia | omega)
    have e2 : clipAt ks.length hi = hi.toNat := by
      have : hi = ((hi.toNat : Nat) : Int) := by (first | lia | omega)
      rw [this, clipAt_nat]; (first | lia | omega)
    simp only [Option.elim]
    rw [e1, e2]
    congr 1
    (first | lia | omega))) hs ht
theorem slice_oct_from (F : Fr h₀ L s.heap m) (N : News h₀ L s.heap news) (hk : KBw.bInts b = ks) (h0 : 0 ≤ lo) (h2 : lo ≤ ks.length) (hz : ks.length ≤ 5000)
    (h : ∀ b' h' t' k, Fr h₀ L h' m → News h₀ L h' news → KBw.bInts b' = ks.drop lo.toNat → Q (.bytes b' t') { s with heap := h', toks := k })
    (hs : subscripted slice false (.bytes b t) (.ref s.heap.objs.size) = operate [.ref s.heap.objs.size, .bytes b t] (getItem (.bytes b t) (.ref s.heap.objs.size)) := by with_unfolding_all rfl)
    (ht : ∀ r, letTemporaryGo value (.bytes b t) r = pure () := by intro _; with_unfolding_all rfl) :
    wpAny (model prog w) A (subscriptTail value slice (.bytes b t) (.ref s.heap.objs.size)) Q E { s with heap := s.heap.push { cls := .type "slice", data := .fields #[.int lo u1, .none, .none] } } :=
  KBc.slice_K (lo := some lo) (hi := none) F N hk (by constructor) (by constructor) (by (first | lia | omega)) (fun h' t' k F' N' e => h _ h' t' k F' N' (by
    rw [e]
    have e1 : clipAt ks.length lo = lo.toNat := by
      have : lo = ((lo.toNat : Nat) : Int) := by (first | lia | omega)
      rw [this, clipAt_nat]; (first | lia | omega)
    simp only [Option.elim]
    rw [e1]
    exact List.take_of_length_le (by simp))) hs ht
theorem slice_oct_upto (F : Fr h₀ L s.heap m) (N : News h₀ L s.heap news) (hk : KBw.bInts b = ks) (h0 : 0 ≤ hi) (h2 : hi ≤ ks.length) (hz : ks.length ≤ 5000)
    (h : ∀ b' h' t' k, Fr h₀ L h' m → News h₀ L h' news → KBw.bInts b' = ks.take hi.toNat → Q (.bytes b' t') { s with heap := h', toks := k })
    (hs : subscripted slice false (.bytes b t) (.ref s.heap.objs.size) = operate [.ref s.heap.objs.size, .bytes b t] (getItem (.bytes b t) (.ref s.heap.objs.size)) := by with_unfolding_all rfl)
    (ht : ∀ r, letTemporaryGo value (.bytes b t) r = pure () := by intro _; with_unfolding_all rfl) :
    wpAny (model prog w) A (subscriptTail value slice (.bytes b t) (.ref s.heap.objs.size)) Q E { s with heap := s.heap.push { cls := .type "slice", data := .fields #[.none, .int hi u2, .none] } } :=
  KBc.slice_K (lo := none) (hi := some hi) F N hk (by constructor) (by constructor) (by (first | lia | omega)) (fun h' t' k F' N' e => h _ h' t' k F' N' (by
    rw [e]
    have e2 : clipAt ks.length hi = hi.toNat := by
      have : hi = ((hi.toNat : Nat) : Int) := by (first | lia | omega)
      rw [this, clipAt_nat]; (first | lia | omega)
    simp only [Option.elim, List.drop_zero]
    rw [e2, Nat.sub_zero])) hs ht
end
end
section
open PySem PySem.W PyProof.Rows PySem.Calls PySem.Spec
noncomputable def WhStep (h₀ : Heap) (L : Addr) (s : Shared) (y : Str) (m₀ : Str → Option Value) (J : Nat → Value → List (Addr × Obj) → Prop) (n : Nat) (f : Flow) (s₃ : Shared) : Prop :=
  f = .next ∧ ∃ h' tk m₂ nw n' v, s₃ = { s with heap := h', toks := tk } ∧ Fr h₀ L h' m₂ ∧ m₂ y = some v ∧ (∀ z, z ≠ y → m₂ z = m₀ z) ∧ News h₀ L h' nw ∧ n' < n ∧ J n' v nw
theorem WhStep.intro {h₀ h' : Heap} {L : Addr} {s : Shared} {y : Str} {m₀ m₂ : Str → Option Value} {J : Nat → Value → List (Addr × Obj) → Prop} {n n' tk : Nat} {nw : List (Addr × Obj)} {v : Value}
    (F : Fr h₀ L h' m₂) (hy : m₂ y = some v) (hz : ∀ z, z ≠ y → m₂ z = m₀ z) (N : News h₀ L h' nw) (hn : n' < n) (hJ : J n' v nw) : WhStep h₀ L s y m₀ J n .next { s with heap := h', toks := tk } :=
  ⟨rfl, h', tk, m₂, nw, n', v, rfl, F, hy, hz, N, hn, hJ⟩
theorem set_at {y : Str} {v : Value} {m₀ m₂ : Str → Option Value} (hy : m₂ y = some v) (hz : ∀ z, z ≠ y → m₂ z = m₀ z) : m₂ = fun z => if z = y then some v else m₀ z := by
  funext z
  by_cases h : z = y
  · rw [h, if_pos rfl]; exact hy
  · rw [if_neg h]; exact hz z h
section
variable {prog : Program} {w : World} {A : Around} {E : Value → Shared → Prop} {Q : Flow → Shared → Prop} {s : Shared} {env : Env} {h₀ : Heap} {L : Addr}
theorem While_at {test : PySem.Expr} {body : List Stmt} {pos : Pos} {m₀ : Str → Option Value} {news : List (Addr × Obj)} (F : Fr h₀ L s.heap m₀) (N : News h₀ L s.heap news) (y : Str) {v₀ : Value} (hy : m₀ y = some v₀) (J : Nat → Value → List (Addr × Obj) → Prop) {n₀ : Nat} (hJ : J n₀ v₀ news)
    (turn : ∀ n v nw h₁ tk₁, Fr h₀ L h₁ (fun z => if z = y then some v else m₀ z) → News h₀ L h₁ nw → J n v nw →
      wpAny (model prog w) A (isTrue test env (eval test env)) (fun b s₂ =>
        if b = true then wpAny (model prog w) A (execs body env) (WhStep h₀ L s y m₀ J n) E s₂ else Q .next s₂) E { s with heap := h₁, toks := tk₁ })
    (hE : PassesOwn (model prog w) A env E := by passes_own) :
    wpAny (model prog w) A (exec (.While test body [] pos) env) Q E s := by
  refine While_inv (fun n m₁ nw => ∃ v, m₁ = (fun z => if z = y then some v else m₀ z) ∧ J n v nw) F N ⟨v₀, set_at hy fun _ _ => rfl, hJ⟩ ?_ hE
  rintro n m₁ nw h₁ tk₁ F₁ N₁ ⟨v, rfl, hJ₁⟩
  refine wpAny_mono (turn n v nw h₁ tk₁ F₁ N₁ hJ₁) (fun b s₂ h₂ => ?_) fun _ _ x => x
  cases b with
  | false => simpa using h₂
  | true =>
    simp only [if_true] at h₂ ⊢
    refine wpAny_mono h₂ (fun f s₃ h₃ => ?_) fun _ _ x => x
    obtain ⟨rfl, h', tk, m₂, nw', n', v', rfl, F₂, hy₂, hz₂, N₂, hn, J₂⟩ := h₃
    exact ⟨rfl, h', tk, m₂, nw', n', rfl, F₂, N₂, hn, v', set_at hy₂ hz₂, J₂⟩
end
end
section
open PySem PySem.W PyProof.Rows PySem.Calls PySem.Spec
noncomputable abbrev Led := List (Addr × Obj)
/-- what a call of the def at f, with these arguments, from this ledger, hands back (P: said of any goal R of the new ledger and the answer) -/
noncomputable def Ctr (w : World) (f : Addr) (d u : Nat) (args : List Value) (news : Led) (P : (Led → Value → Prop) → Prop) : Prop :=
  ∀ (p : Program) (loose : List Str) (mean : ExcName → Option Value) (mg mb : Str → Option Value) (dp un : Nat) (gd : Option (List Code)) (cn : Str) (cs : Scope) (ad : Addr) (ccd : Value) (cl : List (Str × Addr)) (outer : List Env) (A₀ : Around) (base h₀ : Heap) (L : Addr) (m : Str → Option Value) (s : Shared) (Q E : Value → Shared → Prop),
    Below A₀ base outer h₀ → Fr h₀ L s.heap m → (hd.heap_1 w.params).In h₀ → News h₀ L s.heap news → Top p loose mean mg mb h₀ → cs.kind = .function → dp + d < recursionLimit → un + u < cLine →
    P (fun news' r => ∀ h' tk', Fr h₀ L h' m → News h₀ L h' news' → Q r { s with heap := h', toks := tk' }) →
    wpAny (model PySem.Challenge.rw_pf0386_01.row.prog w) (ktrTop dp un gd cn cs L ad ccd cl outer) (call (.ref f) args) Q E s
theorem Ctr.use {w : World} {f : Addr} {d u : Nat} {args : List Value} {news : Led} {P : (Led → Value → Prop) → Prop} (C : Ctr w f d u args news P)
    {p : Program} {loose : List Str} {mean : ExcName → Option Value} {mg mb : Str → Option Value} {dp un : Nat} {gd : Option (List Code)} {cn : Str} {cs : Scope} {ad : Addr} {ccd : Value} {cl : List (Str × Addr)} {outer : List Env} {A₀ : Around} {base h₀ : Heap} {L : Addr} {m : Str → Option Value} {s : Shared} {Q E : Value → Shared → Prop}
    (B : Below A₀ base outer h₀) (F : Fr h₀ L s.heap m) (X : (hd.heap_1 w.params).In h₀) (N : News h₀ L s.heap news) (T : Top p loose mean mg mb h₀) (hk : cs.kind = .function) (hd : dp + d < recursionLimit) (hu : un + u < cLine)
    (ret : P (fun news' r => ∀ h' tk', Fr h₀ L h' m → News h₀ L h' news' → Q r { s with heap := h', toks := tk' })) :
    wpAny (model PySem.Challenge.rw_pf0386_01.row.prog w) (ktrTop dp un gd cn cs L ad ccd cl outer) (call (.ref f) args) Q E s :=
  C p loose mean mg mb dp un gd cn cs ad ccd cl outer A₀ base h₀ L m s Q E B F X N T hk hd hu ret
/-- a tag's values, each with its token -/
structure TagV where
  k : Int
  tk : Tok
  p : Int
  tp : Tok
  d : Bool
  v : Int
  tv : Tok
noncomputable abbrev rowObj (t : TagV) : Obj := { cls := .type "tuple", data := .seq #[.int t.k t.tk, .int t.p t.tp, .bool t.d, .int t.v t.tv] }
noncomputable abbrev tagDict (w : World) (t : TagV) (a b c e : Tok) : Obj := dictOf [⟨PyData.keyHash w.params (Str.ofString "kind"), .str (Str.ofString "kind") a, .int t.k t.tk⟩, ⟨PyData.keyHash w.params (Str.ofString "priority"), .str (Str.ofString "priority") b, .int t.p t.tp⟩,
  ⟨PyData.keyHash w.params (Str.ofString "may_drop"), .str (Str.ofString "may_drop") c, .bool t.d⟩, ⟨PyData.keyHash w.params (Str.ofString "vlan"), .str (Str.ofString "vlan") e, .int t.v t.tv⟩] 4
noncomputable abbrev tupObj (vs : List Value) : Obj := { cls := .type "tuple", data := .seq vs.toArray }
structure FrameV where
  tg : Int
  tt : Tok
  sr : Int
  ts : Tok
  kd : Int
  tk : Tok
  pb : Array UInt8
  tp : Tok
noncomputable abbrev frameDict (w : World) (f : FrameV) (tu : Addr) (a b c d e : Tok) : Obj := dictOf [⟨PyData.keyHash w.params (Str.ofString "target"), .str (Str.ofString "target") a, .int f.tg f.tt⟩, ⟨PyData.keyHash w.params (Str.ofString "source"), .str (Str.ofString "source") b, .int f.sr f.ts⟩,
  ⟨PyData.keyHash w.params (Str.ofString "tags"), .str (Str.ofString "tags") c, .ref tu⟩, ⟨PyData.keyHash w.params (Str.ofString "kind"), .str (Str.ofString "kind") d, .int f.kd f.tk⟩, ⟨PyData.keyHash w.params (Str.ofString "payload"), .str (Str.ofString "payload") e, .bytes f.pb f.tp⟩] 5
noncomputable def IsTag (w : World) (news : Led) (x : Addr) (t : TagV) : Prop := ∃ dx a b c e, (x, instObj 230 dx) ∈ news ∧ (dx, tagDict w t a b c e) ∈ news
/-- a frame whose tags tuple holds the objects xs -/
noncomputable def IsFrm (w : World) (news : Led) (x : Addr) (f : FrameV) (xs : List Addr) : Prop := ∃ dx tu a b c d e, (x, instObj 264 dx) ∈ news ∧ (dx, frameDict w f tu a b c d e) ∈ news ∧ (tu, tupObj (xs.map .ref)) ∈ news
noncomputable def TagsAt (w : World) (news : Led) : List Addr → List TagV → Prop
  | [], [] => True
  | x :: xs, t :: ts => IsTag w news x t ∧ TagsAt w news xs ts
  | _, _ => False
noncomputable def RowsAt (news : Led) : List Addr → List TagV → Prop
  | [], [] => True
  | y :: ys, t :: ts => (y, rowObj t) ∈ news ∧ RowsAt news ys ts
  | _, _ => False
theorem IsTag.mono {w : World} {a b : Led} (h : ∀ p ∈ a, p ∈ b) {x : Addr} {t : TagV} (k : IsTag w a x t) : IsTag w b x t := let ⟨dx, p, q, r, s, h1, h2⟩ := k; ⟨dx, p, q, r, s, h _ h1, h _ h2⟩
theorem IsFrm.mono {w : World} {a b : Led} (h : ∀ p ∈ a, p ∈ b) {x : Addr} {f : FrameV} {xs : List Addr} (k : IsFrm w a x f xs) : IsFrm w b x f xs := let ⟨dx, tu, p, q, r, s, t, h1, h2, h3⟩ := k; ⟨dx, tu, p, q, r, s, t, h _ h1, h _ h2, h _ h3⟩
theorem TagsAt.mono {w : World} {a b : Led} (h : ∀ p ∈ a, p ∈ b) : ∀ {xs : List Addr} {ts : List TagV}, TagsAt w a xs ts → TagsAt w b xs ts
  | [], [], _ => trivial
  | _ :: _, _ :: _, k => ⟨k.1.mono h, TagsAt.mono h k.2⟩
  | [], _ :: _, k => k.elim
  | _ :: _, [], k => k.elim
theorem RowsAt.mono {a b : Led} (h : ∀ p ∈ a, p ∈ b) : ∀ {xs : List Addr} {ts : List TagV}, RowsAt a xs ts → RowsAt b xs ts
  | [], [], _ => trivial
  | _ :: _, _ :: _, k => ⟨h _ k.1, RowsAt.mono h k.2⟩
  | [], _ :: _, k => k.elim
  | _ :: _, [], k => k.elim
theorem RowsAt.length {a : Led} : ∀ {xs : List Addr} {ts : List TagV}, RowsAt a xs ts → xs.length = ts.length
  | [], [], _ => rfl
  | _ :: _, _ :: _, k => by simp [RowsAt.length k.2]
  | [], _ :: _, k => k.elim
  | _ :: _, [], k => k.elim
theorem TagsAt.length {w : World} {a : Led} : ∀ {xs : List Addr} {ts : List TagV}, TagsAt w a xs ts → xs.length = ts.length
  | [], [], _ => rfl
  | _ :: _, _ :: _, k => by simp [TagsAt.length k.2]
  | [], _ :: _, k => k.elim
  | _ :: _, [], k => k.elim
theorem RowsAt.snoc {a : Led} {y : Addr} {t : TagV} (h : (y, rowObj t) ∈ a) : ∀ {xs : List Addr} {ts : List TagV}, RowsAt a xs ts → RowsAt a (xs ++ [y]) (ts ++ [t])
  | [], [], _ => ⟨h, trivial⟩
  | _ :: _, _ :: _, k => ⟨k.1, RowsAt.snoc h k.2⟩
  | [], _ :: _, k => k.elim
  | _ :: _, [], k => k.elim
theorem TagsAt.get {w : World} {a : Led} : ∀ {xs : List Addr} {ts : List TagV} {i : Nat} {x : Addr}, TagsAt w a xs ts → xs[i]? = some x → ∃ t, ts[i]? = some t ∧ IsTag w a x t
  | [], [], _, _, _, e => by simp at e
  | _ :: _, t :: _, 0, _, k, e => by simp at e; subst e; exact ⟨t, rfl, k.1⟩
  | _ :: _, _ :: _, i + 1, _, k, e => by simpa using TagsAt.get k.2 (by simpa using e)
  | [], _ :: _, _, _, k, _ => k.elim
  | _ :: _, [], _, _, k, _ => k.elim
noncomputable def Abv (news tl : Led) : Prop := ∀ q ∈ news, ∀ p ∈ tl, @LT.lt Nat _ q.1 p.1
noncomputable def NoList (l : Led) : Prop := ∀ p ∈ l, p.2.cls ≠ .type "list"
theorem room0 {a k R : Nat} (h : a + k < R) : a < R := Nat.lt_of_le_of_lt (Nat.le_add_right a k) h
theorem room1 {a b k R : Nat} (h : a + k < R) (e : Nat.ble b k = true) : a + b < R := Nat.lt_of_le_of_lt (Nat.add_le_add_left (Nat.le_of_ble_eq_true e) a) h
theorem room2 {a b c k R : Nat} (h : a + k < R) (e : Nat.ble (b + c) k = true) : a + b + c < R := Nat.add_assoc a b c ▸ room1 h e
theorem room3 {a b c d k R : Nat} (h : a + k < R) (e : Nat.ble (b + c + d) k = true) : a + b + c + d < R := by
  rw [Nat.add_assoc a b c, Nat.add_assoc a (b + c) d]
  exact room1 h e
theorem sub_nil {α : Type} {R : List α} : ∀ q ∈ ([] : List α), q ∈ R := fun _ h => nomatch h
theorem sub_rfl {α : Type} {l : List α} : ∀ q ∈ l, q ∈ l := fun _ h => h
theorem sub_le {α : Type} {l R : List α} : ∀ q ∈ l, q ∈ l ++ R := fun _ h => List.mem_append_left _ h
theorem sub_tl {α : Type} {a : α} {l R : List α} (h : ∀ q ∈ l, q ∈ R) : ∀ q ∈ l, q ∈ a :: R := fun q m => List.mem_cons_of_mem _ (h q m)
theorem sub_ri {α : Type} {l L R : List α} (h : ∀ q ∈ l, q ∈ R) : ∀ q ∈ l, q ∈ L ++ R := fun q m => List.mem_append_right _ (h q m)
theorem sub_lf {α : Type} {l L R : List α} (h : ∀ q ∈ l, q ∈ L) : ∀ q ∈ l, q ∈ L ++ R := fun q m => List.mem_append_left _ (h q m)
theorem all_nil {α : Type} {P : α → Prop} : ∀ q ∈ ([] : List α), P q := fun _ h => nomatch h
theorem all_cons {α : Type} {P : α → Prop} {a : α} {l : List α} (h : P a) (k : ∀ q ∈ l, P q) : ∀ q ∈ a :: l, P q := fun q m => by
  rcases List.mem_cons.mp m with rfl | m
  · exact h
  · exact k q m
theorem all_app {α : Type} {P : α → Prop} {l r : List α} (h : ∀ q ∈ l, P q) (k : ∀ q ∈ r, P q) : ∀ q ∈ l ++ r, P q := fun q m => (List.mem_append.mp m).elim (h q) (k q)
theorem sub_cons {α : Type} {a : α} {l R : List α} (h : a ∈ R) (k : ∀ q ∈ l, q ∈ R) : ∀ q ∈ a :: l, q ∈ R := all_cons h k
theorem sub_app {α : Type} {l r R : List α} (h : ∀ q ∈ l, q ∈ R) (k : ∀ q ∈ r, q ∈ R) : ∀ q ∈ l ++ r, q ∈ R := all_app h k
theorem or_all {α : Type} {X : α → Prop} {l R : List α} (h : ∀ q ∈ l, q ∈ R) : ∀ q ∈ l, q ∈ R ∨ X q := fun q m => .inl (h q m)
theorem fill0 : PySem.Challenge.rw_pf0386_01 = PySem.Challenge.rw_pf0386_01 ∧ hd.heap_1 = hd.heap_1 := by
  k_fill
  exact ⟨rfl, rfl⟩
end
section
open PySem PySem.W PyProof.Rows PySem.Calls PySem.Spec
noncomputable def half : List Int := [0, 498536548, 997073096, 651767980, 1994146192, 1802195444, 1303535960, 1342533948, 3988292384, 4027552580, 3604390888, 3412177804, 2607071920, 2262029012, 2685067896, 3183342108]
section
variable {prog : Program} {w : World} {A : Around} {E : Value → Shared → Prop} {s : Shared} {h₀ : Heap} {L : Addr} {m : Str → Option Value} {value slice : PySem.Expr} {k x : Int} {u : Tok} {Q : Value → Shared → Prop}
theorem tbl_item (F : Fr h₀ L s.heap m) (X : (hd.heap_1 w.params).In h₀) (hk : k = x % 16) (h : ∀ t, Q (.int (half.getD (x % 16).toNat 0) t) s)
    (hs : subscripted slice false (.ref 153) (.int k u) = operate [.ref 153, .int k u] (getItem (.ref 153) (.int k u)) := by with_unfolding_all rfl) :
    wpAny (model prog w) A (subscriptTail value slice (.ref 153) (.int k u)) Q E s := by
  have h0 : 0 ≤ k := by rw [hk]; exact Int.emod_nonneg _ (by decide)
  have h1 : k < 16 := by rw [hk]; exact Int.emod_lt_of_pos _ (by decide)
  have z : ∃ l n dd sl, (hd.heap_1 w.params).lookup 153 = some ⟨.type "tuple", dd, .seq (List.toArray l) n, sl⟩ ∧ IntsAre l half := ⟨_, _, _, _, rfl, by repeat constructor⟩
  obtain ⟨l, n, dd, sl, hl, hi⟩ := z
  exact topTupAny_K F X hl hi h0 (by show k < 16; exact h1) (by (first | lia | omega)) (fun t => by rw [hk]; exact h t) hs
end
noncomputable def isK (k : Int) : Value → Bool
  | .int n _ => n == k
  | _ => false
section
variable {prog : Program} {w : World} {A : Around} {E : Value → Shared → Prop} {s : Shared} {h₀ : Heap} {L : Addr} {m : Str → Option Value} {k : Int} {u : Tok} {Q : Value → Shared → Prop}
theorem kinds_tup (F : Fr h₀ L s.heap m) (X : (hd.heap_1 w.params).In h₀) : ∃ t1 t2, IsTup s.heap 206 (List.toArray [Value.int 33024 t1, Value.int 34984 t2]) := by
  have z : ∃ t1 t2 n dd sl, (hd.heap_1 w.params).lookup 206 = some ⟨.type "tuple", dd, .seq (List.toArray [Value.int 33024 t1, Value.int 34984 t2]) n, sl⟩ := ⟨_, _, _, _, _, rfl⟩
  obtain ⟨t1, t2, n, dd, sl, hl⟩ := z
  exact ⟨t1, t2, tupK (X.keeps F.keep) hl⟩
theorem kinds_any (k : Int) (t1 t2 : Tok) : (List.toArray [Value.int 33024 t1, Value.int 34984 t2]).any (isK k) = decide (k = 33024 ∨ k = 34984) := by
  simp only [List.any_toArray, List.any_cons, List.any_nil, isK, Bool.or_false]
  by_cases h1 : k = 33024
  · subst h1; simp
  · by_cases h2 : k = 34984
    · subst h2; simp
    · have e1 : ((33024 : Int) == k) = false := by simpa using Ne.symm h1
      have e2 : ((34984 : Int) == k) = false := by simpa using Ne.symm h2
      simp [e1, e2, h1, h2]
theorem kinds_eq {k : Int} {u : Tok} {t1 t2 : Tok} {A : Around} {s : Shared} : ∀ y, y ∈ List.toArray [Value.int 33024 t1, Value.int 34984 t2] → PySem.SeqAt.EqAt A s y (.int k u) (isK k y) := by
  intro y hy
  simp only [List.mem_toArray, List.mem_cons, List.not_mem_nil, or_false] at hy
  rcases hy with rfl | rfl
  · exact PySem.SeqAt.EqAt.int_int _ _ _ _
  · exact PySem.SeqAt.EqAt.int_int _ _ _ _
theorem kinds_in (F : Fr h₀ L s.heap m) (X : (hd.heap_1 w.params).In h₀) (h : Q (.bool (decide (k = 33024 ∨ k = 34984))) s) : wpAny (model prog w) A (compareOp .In (.int k u) (.ref 206)) Q E s := by
  obtain ⟨t1, t2, hl⟩ := kinds_tup F X
  exact PySem.SeqAt.in_tupleAt (isK k) hl kinds_eq (by rw [kinds_any]; exact h)
theorem kinds_notin (F : Fr h₀ L s.heap m) (X : (hd.heap_1 w.params).In h₀) (h : Q (.bool (!decide (k = 33024 ∨ k = 34984))) s) : wpAny (model prog w) A (compareOp .NotIn (.int k u) (.ref 206)) Q E s := by
  obtain ⟨t1, t2, hl⟩ := kinds_tup F X
  exact PySem.SeqAt.notIn_tupleAt (isK k) hl kinds_eq (by rw [kinds_any]; exact h)
end
noncomputable def crcStep (a k : Int) : Int :=
  let b := Builtin.bitXor (a.fdiv (2 ^ (4 : Int).toNat)) (half.getD (Builtin.bitXor a k % 16).toNat 0)
  Builtin.bitXor (b.fdiv (2 ^ (4 : Int).toNat)) (half.getD (Builtin.bitXor b (k.fdiv (2 ^ (4 : Int).toNat)) % 16).toNat 0)
noncomputable def crcF (ks : List Int) : Int := Builtin.bitXor (ks.foldl crcStep 4294967295) 4294967295
theorem in255 (f : Int → Int) (l : List Int) : KBa.In (l.map fun k => Builtin.bitAnd (f k) 255) := by
  intro n hn
  obtain ⟨k, _, rfl⟩ := List.mem_map.mp hn
  rw [bitAnd_m8]
  exact ⟨Int.emod_nonneg _ (by decide), Int.emod_lt_of_pos _ (by decide)⟩
noncomputable def putB (n m : Int) (j : Nat) : Int := Builtin.bitAnd (n.fdiv (2 ^ (8 * (m - 1 + (j : Int) * -1)).toNat)) 255
noncomputable def putL (n m : Int) (k : Nat) : List Int := (List.range k).map (putB n m)
theorem putL_succ (n m : Int) (k : Nat) : putL n m (k + 1) = putL n m k ++ [putB n m k] := by unfold putL; rw [List.range_succ, List.map_append]; rfl
theorem putL_in (n m : Int) (k : Nat) : KBa.In (putL n m k) := by
  intro x hx
  obtain ⟨j, _, rfl⟩ := List.mem_map.mp hx
  unfold putB
  rw [bitAnd_m8]
  exact ⟨Int.emod_nonneg _ (by decide), Int.emod_lt_of_pos _ (by decide)⟩
theorem putL_length (n m : Int) (k : Nat) : (putL n m k).length = k := by simp [putL]
noncomputable def sumL (ks : List Int) : List Int := (rangeKs 0 (4 - 0 : Int).toNat).map fun k => Builtin.bitAnd ((crcF ks).fdiv (2 ^ (8 * k).toNat)) 255
end
section
open PySem PySem.W PyProof.Rows PySem.Calls PySem.Spec
set_option maxRecDepth 100000
section
variable {M : Model} {prog : Program} {w : World} {A : Around} {E : Value → Shared → Prop} {R : Result → Shared → Prop} {h : Heap} {g : Array GenState} {d : Drawn} {t : Nat} {os : OsState}
variable {nm q : Str} {C N : Addr} {bs bm : List Value} {hdct : Bool} {sn : List Str} {sub : List Value} {ab : Bool} {col : Option Bool} {dd : Option Addr} {k0 k1 k2 k3 k5 : Option Value}
noncomputable abbrev argsObj (rest : List Value) : Obj := { cls := .type "tuple", data := .seq rest.toArray }
noncomputable abbrev excObj (C t : Addr) (dd : Option Addr) : Obj := { cls := .ref C, dict := dd, data := .fields #[.ref t, .none, .none, .none, .bool false, .none] }
theorem xc_check_new {rest : List Value} {Q : Unit → Shared → Prop} (hcont : (Value.ref C :: bm).contains (.type "Exception") = true) (hC : h.get? C = some (excClassObj nm q C N bs bm hdct sn sub ab col dd k0 k1 k2 k3 k5 "Exception.__new__"))
    (hq : Q () ⟨h, g, d, t, os⟩) : wpAny M A (checkBuiltinCall "Exception.__new__" ⟨.ref C :: rest, []⟩) Q E ⟨h, g, d, t, os⟩ := by
  have F := PySem.F.excBase_Exception
  have hstar := F.noStar
  simp only [checkBuiltinCall, F.newKind, F.newSplit, F.newRow]
  repeat (first | refine wpAny_loadPart_at hC ?_ | (refine wpAny_isSubtype_exc hC ?_; rw [hcont]) | refine wpAny_staticBase_exc hC ?_ | refine wpAny_madeBy_exc hC ?_ | simp only [bne_self_eq_false, Bool.false_eq_true, if_false] | wp_step)
  exact hq
theorem xc_new {rest : List Value} (hcB : (Value.ref C :: bm).contains (.type "Exception") = true) (hcA : (Value.ref C :: bm).contains (.type "AttributeError") = false) (hcN : (Value.ref C :: bm).contains (.type "NameError") = false)
    (hC : h.get? C = some (excClassObj nm q C N bs bm hdct sn sub ab col dd k0 k1 k2 k3 k5 "Exception.__new__"))
    (hq : R (.ok (.ret (.ref (h.objs.size + 1)))) ⟨(h.push (argsObj rest)).push (excObj C h.objs.size none), g, d, t, os⟩) (hrest : rest.length ≤ sizeLine := by size_fits) :
    codeAny (model prog w) A (.builtin "Exception.__new__" ⟨.ref C :: rest, []⟩) R ⟨h, g, d, t, os⟩ := by
  have F := PySem.F.excBase_Exception
  have hends := F.ends
  refine codeAny_builtinAt F.entry ?_
  unfold Builtin.«BaseException.__new__»
  refine PySem.wpAt_bind ?_
  show PySem.wpAt _ _ _ (stack >>= _) _ _ _
  refine PySem.wpAt_bind (PySem.wpAt_stack fun p below => PySem.wpAt_of_wpAny ?_)
  wp_walk
  refine PySem.wpAt_of_wpAny ?_
  rw [F.owner]
  repeat (first | with_reducible refine wpAny_madeHere_exc F.canon hC ?_ | with_reducible refine wpAny_loadPart_at hC ?_ | (with_reducible refine wpAny_isSubtype_exc hC ?_; first | rw [hcB] | rw [hcA] | rw [hcN]) | wp_step)
  show R _ _
  rw [Heap.size_push]
  exact hq
structure ExcMakes (M : Model) (h : Heap) (C : Addr) (fI : Addr) : Prop where
  obj : ∃ nm q N bs bm hdct sn sub ab col dd k0 k1 k2 k3 k5, h.get? C = some (excClassObj nm q C N bs bm hdct sn sub ab col dd k0 k1 k2 k3 k5 "Exception.__new__") ∧ (Value.ref C :: bm).contains (.type "Exception") = true ∧ (Value.ref C :: bm).contains (.type "BaseException") = true ∧
    (Value.ref C :: bm).contains (.type "AttributeError") = false ∧ (Value.ref C :: bm).contains (.type "NameError") = false
  call : Looks M h (specialOf (.ref C) "__call__") (some (.builtin "type.__call__"))
  typ : Looks M h (isInstance (.ref C) (.type "type")) true
  init : Looks M h (typeLookup (.ref C) "__init__") (some (.ref fI))
  bind : ∀ self, Looks M h (bindSpecial (.ref fI) self) (.ref fI, [self])
theorem xc_core {rest : List Value} {fI : Addr} (Y : ExcMakes (model prog w) h C fI)
    (hq : codeAny (model prog w) (A.under (.builtin "type.__call__" ⟨.ref C :: rest, []⟩)) (.call (.ref fI) ⟨.ref (h.objs.size + 1) :: rest, []⟩) (InitBack (h.objs.size + 1) R) ⟨(h.push (argsObj rest)).push (excObj C h.objs.size none), g, d, t, os⟩)
    (hrest : rest.length ≤ sizeLine := by size_fits) :
    codeAny (model prog w) A (.call (.ref C) ⟨rest, []⟩) R ⟨h, g, d, t, os⟩ := by
  obtain ⟨⟨nm, q, N, bs, bm, hdct, sn, sub, ab, col, dd, k0, k1, k2, k3, k5, hC, hcE, hcB, hcA, hcN⟩, call, typ, init, hb⟩ := Y
  refine codeAny_of_tree ?_
  show wpAny _ _ (callAny (.ref C) _) _ _ _
  refine nd_load hC ?_
  show wpAny _ _ (callAny.viaDunder (.ref C) _) _ _ _
  unfold callAny.viaDunder
  refine wpAny_bind (call.at ?_)
  dsimp only
  rw [tc_bind]
  refine wpAny_bind (wpAny_pure (wpAny_bind (wpAny_pure ?_)))
  refine wpAny_pure (a := Fin.again (.call (.builtin "type.__call__") ⟨.ref C :: rest, []⟩)) (And.intro rfl ?_)
  refine codeAny_call_builtin_at (Code.quiet_builtin _ (by decide +kernel)) entry_typeCall (check_slot tc_kind tc_split typ (tc_args _ _ _) ?_)
  repeat (first | with_reducible refine wpAny_loadPart_at hC ?_ | with_reducible refine wpAny_madeBy_exc hC ?_ | wp_step)
  refine codeAny_call_builtin_code (Code.quiet_builtin _ PySem.F.excBase_Exception.quiet) ?_
  refine xc_check_new hcE hC ?_
  refine xc_new hcE hcA hcN hC ?_ hrest
  show wpAny _ _ _ _ _ _
  have k : ∀ b o, h.get? b = some o → ((h.push (argsObj rest)).push (excObj C h.objs.size none)).get? b = some o := fun b o e => Heap.get?_push_of_some _ (Heap.get?_push_of_some _ e)
  have hx : ((h.push (argsObj rest)).push (excObj C h.objs.size none)).get? (h.objs.size + 1) = some (excObj C h.objs.size none) := by heap_get
  have hC₁ := k _ _ hC
  have i1 := init.keeps k
  have b1 := (hb (.ref (h.objs.size + 1))).keeps k
  have hcC : (Value.ref C :: bm).contains (.ref C) = true := by simp
  unfold isInstance
  repeat (first | with_reducible refine wpAny_loadPart_at hx ?_ | (with_reducible refine wpAny_isSubtype_exc hC₁ ?_; rw [hcC]) | wp_step)
  show wpAny _ _ (typeLookup (.ref C) _) _ _ _
  repeat (first | with_reducible refine wpAny_call ?_ | lk)
  refine codeAny_mono hq fun r s' z => ?_
  rcases r with e | (v | _ | _ | _) <;> first | exact z | exact z.elim | skip
  obtain ⟨rfl, z⟩ := z
  exact wpAny_pure (wpAny_pure z)
end
section
variable {prog : Program} {w : World} {A : Around} {E : Value → Shared → Prop} {R : Result → Shared → Prop} {s : Shared} {h₀ : Heap} {L C : Addr} {m : Str → Option Value} {news : List (Addr × Obj)}
theorem exc_K {rest : List Value} {fI : Addr} (F : Fr h₀ L s.heap m) (N : News h₀ L s.heap news) (Y : ExcMakes (model prog w) s.heap C fI) (hrest : rest.length ≤ sizeLine)
    (h : ∀ e t h', Fr h₀ L h' m → News h₀ L h' ((e, excObj C t none) :: (t, argsObj rest) :: news) → (∀ p ∈ news, @LT.lt Nat _ p.1 t) → @LT.lt Nat _ t e →
      codeAny (model prog w) (A.under (.builtin "type.__call__" ⟨.ref C :: rest, []⟩)) (.call (.ref fI) ⟨.ref e :: rest, []⟩) (InitBack e R) { s with heap := h' }) :
    codeAny (model prog w) A (.call (.ref C) ⟨rest, []⟩) R s := by
  obtain ⟨hh, g, d, t, os⟩ := s
  refine xc_core Y (h _ hh.objs.size _ ((F.push _).push _) ?_ (fun p hp => Heap.lt_size (N p hp).1) (Nat.lt_succ_self _)) hrest
  have := (N.push F (argsObj rest)).push (F.push _) (excObj C hh.objs.size none)
  rwa [Heap.size_push] at this
noncomputable def isTy (v : Value) : Bool := v == .type "type"
noncomputable def clsD : Data → Option ClassData
  | .cls cd => some cd
  | _ => none
theorem clsD_cls {d : Data} {cd : ClassData} (h : clsD d = some cd) : d = .cls cd := by cases d <;> first | (cases h; rfl) | cases h
noncomputable def excInK (K : Frag) (C : Addr) (fI : Addr) : Bool := (K.lookup C).any fun o => isTy o.cls && (clsD o.data).any fun cd =>
  decide (cd.mro = .ref C :: cd.mro.tail) && (decide (o.slots.toList = [o.slots.toList[0]!, o.slots.toList[1]!, o.slots.toList[2]!, o.slots.toList[3]!, some (.builtin "Exception.__new__"), o.slots.toList[5]!]) && (!cd.hasDel && ((Value.ref C :: cd.mro.tail).contains (.type "Exception") && ((Value.ref C :: cd.mro.tail).contains (.type "BaseException") && (!(Value.ref C :: cd.mro.tail).contains (.type "AttributeError") && (!(Value.ref C :: cd.mro.tail).contains (.type "NameError") &&
        ((specialIn K (.ref C) "__call__" == some (some (.builtin "type.__call__"))) && ((instIn K (.ref C) (.type "type") == some true) && ((findIn K (.ref C) "__init__" == some (some (.ref fI))) && (typeIn K (.ref fI) == some (.type "function")))))))))))
theorem excMakes_of {K : Frag} {M : Model} {h : Heap} {C fI : Addr} (X : K.In h) (q : excInK K C fI = true) : ExcMakes M h C fI := by
  obtain ⟨o, ho, q⟩ := any_some q
  obtain ⟨q0, q⟩ := Bool.and_eq_true_iff.mp q
  obtain ⟨cd, hc, q⟩ := any_some q
  have e0 : o.cls = .type "type" := eq_of_beq q0
  have e1 := clsD_cls hc
  obtain ⟨q1, q⟩ := Bool.and_eq_true_iff.mp q
  obtain ⟨q2, q⟩ := Bool.and_eq_true_iff.mp q
  obtain ⟨hdel, q⟩ := Bool.and_eq_true_iff.mp q
  obtain ⟨c1, q⟩ := Bool.and_eq_true_iff.mp q
  obtain ⟨c2, q⟩ := Bool.and_eq_true_iff.mp q
  obtain ⟨c3, q⟩ := Bool.and_eq_true_iff.mp q
  obtain ⟨c4, q⟩ := Bool.and_eq_true_iff.mp q
  obtain ⟨c5, q⟩ := Bool.and_eq_true_iff.mp q
  obtain ⟨c6, q⟩ := Bool.and_eq_true_iff.mp q
  obtain ⟨c7, c8⟩ := Bool.and_eq_true_iff.mp q
  refine ⟨?_, looks_specialIn X (eq_of_beq c5), looks_instIn X (eq_of_beq c6), looks_findIn X (eq_of_beq c7), fun self => bind_fn X self (eq_of_beq c8)⟩
  obtain ⟨c, dd, d, sl⟩ := o
  obtain ⟨nm, bs, mro, ns, qn, hd, sn, sub, ab, col, del⟩ := cd
  have q1' := of_decide_eq_true q1
  have q2' := of_decide_eq_true q2
  generalize mro.tail = bm at q1' c1 c2 c3 c4
  dsimp only at e0 e1 q1' q2' hdel
  have hsl : sl = #[sl.toList[0]!, sl.toList[1]!, sl.toList[2]!, sl.toList[3]!, some (.builtin "Exception.__new__"), sl.toList[5]!] := Array.toList_inj.mp q2'
  generalize sl.toList[0]! = k0, sl.toList[1]! = k1, sl.toList[2]! = k2, sl.toList[3]! = k3, sl.toList[5]! = k5 at hsl
  subst e0 e1 q1' hsl
  cases del with
  | true => cases hdel
  | false => exact ⟨nm, qn, ns, bs, bm, hd, sn, sub, ab, col, dd, k0, k1, k2, k3, k5, X _ _ ho, c1, c2, (Bool.not_eq_true' _).mp c3, (Bool.not_eq_true' _).mp c4⟩
end
end
section
open PySem PySem.W PyProof.Rows PySem.Calls PySem.Spec
set_option maxRecDepth 100000
section
variable {prog : Program} {w : World} {A : Around} {E : Value → Shared → Prop} {s : Shared} {h₀ : Heap} {L C e t fI : Addr} {m : Str → Option Value} {rest : List (Addr × Obj)} {v : Value} {Q : Value → Shared → Prop}
theorem init_K (Y : ExcMakes (model prog w) s.heap C fI) (F : Fr h₀ L s.heap m) (N : News h₀ L s.heap ((e, excObj C t none) :: rest)) (off : ∀ p ∈ rest, p.1 ≠ e)
    (h : ∀ t2 h', Fr h₀ L h' m → News h₀ L h' ((t2, argsObj [v]) :: (e, excObj C t2 none) :: rest) → (∀ q ∈ (e, excObj C t none) :: rest, @LT.lt Nat _ q.1 t2) → Q .none { s with heap := h' }) :
    wpAny (model prog w) A (call (.builtin "Exception.__init__") [.ref e, v]) Q E s := by
  obtain ⟨⟨nm, q, N0, bs, bm, hdct, sn, sub, ab, col, dd, k0, k1, k2, k3, k5, hC, hcE, hcB, hcA, hcN⟩, call, typ, init, hb⟩ := Y
  have G := PySem.F.excBase_Exception
  have he : s.heap.get? e = some (excObj C t none) := (N _ (.head _)).1
  have hLe : e ≠ L := (N _ (.head _)).2.1
  have hne : h₀.get? e = none := (N _ (.head _)).2.2
  obtain ⟨hh, g, d, tk, os⟩ := s
  have hshort := G.noStar
  refine wpAny_call (codeAny_call_builtin G.init.plain G.initEntry ?_)
  have chk : ∀ {Q' : Unit → Shared → Prop}, Q' () ⟨hh, g, d, tk, os⟩ → wpAny (model prog w) A.in1 (checkBuiltinCall "Exception.__init__" ⟨[.ref e, v], []⟩) Q' (fun e s' => E e s') ⟨hh, g, d, tk, os⟩ := by
    intro Q' hq
    simp only [checkBuiltinCall, G.initKind, G.initSplit, G.initRow]
    repeat (first | (with_reducible refine wpAny_loadPart_at he ?_) | with_reducible refine wpAny_loadPart_at hC ?_ | (with_reducible refine wpAny_isSubtype_exc hC ?_; rw [hcE]) | wp_step)
    exact hq
  refine chk ?_
  unfold Builtin.«BaseException.__init__»
  wp_walk
  have hlt : e < hh.objs.size := Heap.lt_size he
  have N1 := N.push F (argsObj [v])
  have hs : Heap.SameBut e (hh.push (argsObj [v])) ((hh.push (argsObj [v])).update e (Obj.mapFields fun x => x.setIfInBounds 0 (Value.ref hh.objs.size))) := Heap.SameBut.update ..
  have ho : ((hh.push (argsObj [v])).update e (Obj.mapFields fun x => x.setIfInBounds 0 (Value.ref hh.objs.size))).get? e = some (excObj C hh.objs.size none) := Heap.get?_update_self _ (Heap.get?_push_of_some _ he) rfl
  exact h hh.objs.size _ ((F.push _).change hs hLe hne) (N1.setAt (own := [_]) (fun p hp => by
    rw [List.mem_singleton.mp hp]; exact Nat.ne_of_gt hlt) off hs ho) (fun q hq => Heap.lt_size (N q hq).1)
end
end
section
open PySem PySem.W PyProof.Rows PySem.Calls PySem.Spec
set_option maxRecDepth 100000
noncomputable def isRf : Value → Bool
  | .ref _ => true
  | _ => false
theorem isRf_ref {v : Value} (h : isRf v = true) : ∃ c, v = .ref c := by cases v <;> first | exact ⟨_, rfl⟩ | cases h
noncomputable def excOnly (l : List Value) : Bool := l.dropWhile isRf == [.type "Exception", .type "BaseException", .type "object"]
theorem exc_step {v : Value} {r : List Value} (e : excOnly (v :: r) = true) : (∃ c, v = .ref c ∧ excOnly r = true) ∨ v :: r = [.type "Exception", .type "BaseException", .type "object"] := by
  cases hv : isRf v with
  | true => obtain ⟨c, rfl⟩ := isRf_ref hv; exact .inl ⟨c, rfl, e⟩
  | false =>
    unfold excOnly at e
    rw [List.dropWhile_cons_of_neg (by rw [hv]; decide)] at e
    exact .inr (eq_of_beq e)
theorem exc_passes (self : Value) : refuseLoop self "__setattr__" [.type "Exception", .type "BaseException", .type "object"] = pure () := by kernel_rfl
theorem exc_only (self : Value) : ∀ {l : List Value}, excOnly l = true → refuseLoop self "__setattr__" l = pure ()
  | [], e => absurd e (by decide)
  | v :: r, e => by
    rcases exc_step e with ⟨c, rfl, e⟩ | h
    · rw [refuseLoop_ref]; exact exc_only self e
    · rw [h]; exact exc_passes self
theorem exc_has : ∀ {l : List Value}, excOnly l = true → l.contains (.type "object") = true
  | [], e => absurd e (by decide)
  | v :: r, e => by
    rcases exc_step e with ⟨c, rfl, e⟩ | h
    · rw [List.contains_cons, exc_has (l := r) e, Bool.or_true]
    · rw [h]; decide
section
open PySem.Builtin PySem.Builtin.ObjectAttr
variable {prog : Program} {w : World} {A : Around} {E : Value → Shared → Prop} {R : Result → Shared → Prop} {s : Shared} {K : Frag} {h₀ : Heap} {L C x : Addr} {m : Str → Option Value} {rest : List (Addr × Obj)}
theorem osa_openX {ox : Obj} {od : Option Obj} {name : Str} {tk : Tok} {v : Value} {r : Option Value} (X : K.In s.heap) (I : InstAt s.heap x ox C od) (hp : ((clsIn K C).any fun cd => excOnly cd.mro) = true) (ht : takerIn K C name = some r)
    (h : ∀ b, wpAny (model prog w) A.in1 (match r with | some a => setByDescriptor a (.ref x) v | none => storeInOwnDict (.ref x) (.ref C) (.str name tk) name v b)
      (fun fin s' => match fin with | .done f => R (.ok f) s' | .again c' => c'.quiet = true ∧ codeAny (model prog w) A c' R s') (fun e s' => R (.error e) s') s) :
    codeAny (model prog w) A (.call (.builtin "object.__setattr__") ⟨[.ref x, .str name tk, v], []⟩) R s := by
  have SF := PySem.F.store_object
  obtain ⟨cd, hc, ho⟩ := any_some hp
  have ne : cd.mro.isEmpty = false := by cases q : cd.mro with | nil => rw [q] at ho; cases ho | cons _ _ => rfl
  have sub : Looks (model prog w) s.heap (isInstance (.ref x) (.type "object")) true := I.type.andThen (looks_mroIn X (by unfold mroIn; rw [hc, Option.bind_some, if_neg (by rw [ne]; decide), exc_has ho]))
  refine codeAny_call_builtin SF.slot.plain SF.entry (@check_slot (model prog w) _ _ s "object.__setattr__" "object" "__setattr__" (.ref x) [.str name tk, v] [] _ SF.kind SF.split sub (SF.args (.ref x) (.str name tk) v) ?_)
  obtain ⟨attr, ha, hr⟩ := Option.bind_eq_some_iff.mp ht
  have hm : Looks (model prog w) s.heap (mroOf (.ref C)) cd.mro := (looks_clsIn X hc).andThen .now
  have L3 : Looks (model prog w) s.heap (storeTaker? attr) r := by
    cases attr with
    | none => cases hr; exact .now
    | some a =>
      obtain ⟨b, hb, rfl⟩ := Option.map_eq_some_iff.mp hr
      refine (looks_takesIn X hb).andThen ?_
      cases b <;> exact .now
  rw [osa_eq, refuse_eq]
  refine wpAny_bind (wpAny_bind (I.type.here (wpAny_bind (hm.here ?_))))
  rw [exc_only _ ho]
  refine wpAny_pure (wpAny_bind (I.type.here (wpAny_bind ((looks_findIn X ha).here (wpAny_bind (L3.here ?_))))))
  exact h _
theorem set_excD {vs : Array Value} {name : Str} {tk : Tok} {v : Value} (F : Fr h₀ L s.heap m) (N : News h₀ L s.heap ((x, ⟨.ref C, none, .fields vs, #[]⟩) :: rest)) (X : K.In s.heap)
    (hp : ((clsIn K C).any fun cd => excOnly cd.mro) = true) (ht : takerIn K C name = some none) (hh : (clsIn K C).any (·.hasDict) = true) (off : ∀ p ∈ rest, p.1 ≠ x)
    (h : ∀ d h' k, Fr h₀ L h' m → News h₀ L h' ((x, ⟨.ref C, some d, .fields vs, #[]⟩) :: rest) → R (.ok (.ret .none)) { s with heap := h', toks := k }) :
    codeAny (model prog w) A (.call (.builtin "object.__setattr__") ⟨[.ref x, .str name tk, v], []⟩) R s := by
  have hx : s.heap.get? x = some ⟨.ref C, none, .fields vs, #[]⟩ := (N _ (.head _)).1
  have hLx : x ≠ L := (N _ (.head _)).2.1
  have hnx : h₀.get? x = none := (N _ (.head _)).2.2
  refine osa_openX (od := none) X ⟨hx, rfl, rfl, trivial⟩ hp ht fun b => ?_
  obtain ⟨cd, hc, hd'⟩ := any_some hh
  refine wpAny_bind (wpAny_pure (wpAny_bind (wpAny_bind (wpAny_loadPart hx (wpAny_bind ((looks_clsIn X hc).here ?_))))))
  rw [hd']
  have hlt : x < s.heap.objs.size := Heap.lt_size hx
  have hx₁ : (s.heap.push { cls := .type "dict", data := .dict #[] }).get? x = some ⟨.ref C, none, .fields vs, #[]⟩ := Heap.get?_push_of_some _ hx
  refine wpAny_bind (wpAny_alloc ?_)
  refine wpAny_bind (wpAny_update hx₁ ?_)
  refine wpAny_pure (a := some s.heap.objs.size) ?_
  have hxs : x ≠ s.heap.objs.size := Nat.ne_of_lt hlt
  have hgd : ((s.heap.push { cls := .type "dict", data := .dict #[] }).update x fun o => { cls := o.cls, dict := some s.heap.objs.size, data := o.data, slots := o.slots }).get? s.heap.objs.size
      = some { cls := .type "dict", data := .dict #[] } :=
    (Heap.get?_update_ne _ _ _ _ hxs.symm).trans (Heap.get?_push_at rfl rfl)
  have hnd : ((s.heap.push { cls := .type "dict", data := .dict #[] }).update x fun o => { cls := o.cls, dict := some s.heap.objs.size, data := o.data, slots := o.slots }).Ns s.heap.objs.size (fun _ => none) :=
    ⟨_, #[], _, hgd, rfl, fun e he => absurd he (by simp), fun _ => rfl⟩
  have hx2 : ((s.heap.push { cls := .type "dict", data := .dict #[] }).update x fun o => { cls := o.cls, dict := some s.heap.objs.size, data := o.data, slots := o.slots }).get? x = some ⟨.ref C, some s.heap.objs.size, .fields vs, #[]⟩ := Heap.get?_update_self _ hx₁ rfl
  have hsU : Heap.SameBut x (s.heap.push { cls := .type "dict", data := .dict #[] }) ((s.heap.push { cls := .type "dict", data := .dict #[] }).update x fun o => { cls := o.cls, dict := some s.heap.objs.size, data := o.data, slots := o.slots }) := Heap.SameBut.update ..
  show wpAny _ _ (storeInDict s.heap.objs.size (.str name tk) name v) _ _ _
  unfold storeInDict newKeyGuard
  refine wpAny_bind (wpAny_pure (wpAny_bind (wpAny_nsSet1 (Heap.Ns1.of_empty hnd) fun h' hn' hs => ?_)))
  obtain ⟨oD, esD, epD, hoD, hdD, hcD⟩ := hn'.count (Within.cons name v Within.nil)
  refine wpAny_bind (wpAny_lookBehind hoD (by rw [hdD]; exact pastItsLine_dict (Nat.le_trans hcD (by rw [List.length_cons, List.length_nil, sizeLine_eq]; (first | lia | omega)))) ?_)
  refine wpAny_pure (h s.heap.objs.size h' _ (((F.push _).change hsU hLx hnx).change hs (Nat.ne_of_gt F.ns.lt) (next_is_new F)) fun q hq => ?_)
  rcases List.mem_cons.mp hq with rfl | hq
  · exact ⟨(hs.2 x hxs).trans hx2, hLx, hnx⟩
  · have z := N q (.tail _ hq)
    exact ⟨(hs.2 q.1 (Nat.ne_of_lt (Heap.lt_size z.1))).trans ((hsU.2 q.1 (off q hq)).trans (Heap.get?_push_of_some _ z.1)), z.2⟩
theorem set_exc {vs : Array Value} {name : Str} {v : Value} {Q : Unit → Shared → Prop} (F : Fr h₀ L s.heap m) (N : News h₀ L s.heap ((x, ⟨.ref C, none, .fields vs, #[]⟩) :: rest)) (X : K.In s.heap)
    (hs : findIn K (.ref C) "__setattr__" = some (some (.builtin "object.__setattr__"))) (hp : ((clsIn K C).any fun cd => excOnly cd.mro) = true) (ht : takerIn K C name = some none) (hh : (clsIn K C).any (·.hasDict) = true) (off : ∀ p ∈ rest, p.1 ≠ x)
    (h : ∀ d h' k, Fr h₀ L h' m → News h₀ L h' ((x, ⟨.ref C, some d, .fields vs, #[]⟩) :: rest) → Q () { s with heap := h', toks := k }) :
    wpAny (model prog w) A (setAttr (.ref x) name v) Q E s :=
  set_plain X (od := none) ⟨(N _ (.head _)).1, rfl, rfl, trivial⟩ hs (set_excD (s := { s with toks := s.toks + 1 }) F N X hp ht hh off fun d h' k F' N' => h d h' k F' N')
end
theorem news_swapX {h₀ h : Heap} {L : Addr} {p q : Addr × Obj} {r : List (Addr × Obj)} (N : News h₀ L h (p :: q :: r)) : News h₀ L h (q :: p :: r) := fun x hx => N x (by
  simp only [List.mem_cons] at hx ⊢
  rcases hx with h | h | h
  · exact .inr (.inl h)
  · exact .inl h
  · exact .inr (.inr h))
end
section
open PySem PySem.W PyProof.Rows PySem.Calls PySem.Spec
set_option maxRecDepth 100000
/-- an exception of an own class, made and at hand -/
noncomputable def RaiseEnd (M : Model) (E : Value → Shared → Prop) (v : Value) (s₁ : Shared) : Prop :=
  ∃ e C fI oe, v = .ref e ∧ ExcMakes M s₁.heap C fI ∧ s₁.heap.get? e = some oe ∧ oe.cls = .ref C ∧ (∃ vs, oe.data = .fields vs ∧ vs[1]? = some .none) ∧ E (.ref e) s₁
theorem RaiseEnd.of {M : Model} {E : Value → Shared → Prop} {e C fI : Addr} {s₁ : Shared} {oe : Obj} {vs : Array Value} (Y : ExcMakes M s₁.heap C fI) (he : s₁.heap.get? e = some oe) (hc : oe.cls = .ref C) (hd : oe.data = .fields vs) (h1 : vs[1]? = some .none) (hE : E (.ref e) s₁) : RaiseEnd M E (.ref e) s₁ :=
  ⟨e, C, fI, oe, rfl, Y, he, hc, ⟨vs, hd, h1⟩, hE⟩
section
variable {M : Model} {A : Around} {E : Value → Shared → Prop} {s : Shared} {env : Env}
theorem raise_own {x : PySem.Expr} {pos : Pos} {Q : Flow → Shared → Prop} (hh : A.handled = none) (h : wpAny M A (eval x env) (RaiseEnd M E) E s) :
    wpAny M A (exec (.Raise (some x) none pos) env) Q E s := by
  show wpAny M A (do standAt pos; raiseStmt env (some (do let v ← eval x env; standAt pos; pure v)) none) Q E s
  refine wpAny_bind (wpAny_standAt ?_)
  unfold raiseStmt
  refine wpAny_bind (wpAny_bind (wpAny_mono h (fun v s₁ h₁ => wpAny_bind (wpAny_standAt (wpAny_pure ?_))) fun _ _ x => x))
  obtain ⟨e, C, fI, oe, rfl, Y, he, hc, ⟨vs, hd, h1⟩, hE⟩ := h₁
  obtain ⟨⟨nm, q, N, bs, bm, hdct, sn, sub, ab, col, dd, k0, k1, k2, k3, k5, hC, hcE, hcB, hcA, hcN⟩, call, typ, init, hb⟩ := Y
  obtain ⟨cl, di, da, sl⟩ := oe
  dsimp only at hc hd
  subst hc hd
  obtain ⟨hp, g, d, tk, os⟩ := s₁
  repeat (first | with_reducible refine wpAny_loadPart_at he ?_ | with_reducible refine wpAny_loadPart_at hC ?_ | (with_reducible refine wpAny_isSubtype_exc hC ?_; rw [hcB]) | wp_step)
  rw [h1]
  refine wpAny_pure ?_
  rw [if_neg (by decide)]
  exact wpAny_pure (wpAny_raiseNew_none hh hE)
end
section
variable {M : Model} {A : Around} {E : Value → Shared → Prop} {s' : Shared} {base g g₂ : Heap} {outer : List Env} {L a e : Addr} {m : Str → Option Value} {name : Str} {scope : Scope} {cd : Value} {Q : Unit → Shared → Prop} {news : List (Addr × Obj)} {oe : Obj} {vs : Array Value} {a0 : Value}
theorem kts_memX {env : Env} {L b : Addr} {outer : List Env} (hf : env.frame = some L) (hm : b ∈ (env :: outer).filterMap (·.frame)) : b = L ∨ b ∈ outer.filterMap (·.frame) := by
  obtain ⟨e, he, hf'⟩ := List.mem_filterMap.mp hm
  rcases List.mem_cons.mp he with rfl | he
  · rw [hf] at hf'; exact .inl (Option.some.inj hf').symm
  · exact .inr (List.mem_filterMap.mpr ⟨e, he, hf'⟩)
theorem leave_ownS {env : Env} (hfe : env.frame = some L) (hke : env.scope.kind = .function) (K : Below A base outer g) (F : Fr g L s'.heap m) (N : News g L s'.heap ((e, oe) :: news)) (off : ∀ p ∈ news, p.1 ≠ e) (hd : oe.data = .fields vs) (h1 : vs[1]? = some .none) (h0 : vs[0]? = some a0)
    (hQ : ∀ h', RaisedSN base g outer e oe.cls news h' → g.UpToSlots h' → Q () { s' with heap := h' }) :
    wpAny M (A.deeper env) (leaving env (.ref e)) Q E s' := by
  have K' := pushX K F hfe hke
  have he := (N _ (.head _)).1
  have hge : g.get? e = none := (N _ (.head _)).2.2
  have hbe : base.get? e = none := fresh_of_stays K.stays hge
  have hin : ∀ env' ∈ (env :: outer), ∀ b, env'.frame = some b → b ∈ e :: (env :: outer).filterMap (·.frame) := fun env' he b hb => .tail _ (List.mem_filterMap.mpr ⟨env', he, hb⟩)
  have st : base.StaysIn (hideAll s'.heap (e :: (env :: outer).filterMap (·.frame))) := fun b o q => hideAll_get _ (K'.stays b o q) fun hm => by
    rcases List.mem_cons.mp hm with rfl | hm
    · rw [hbe] at q; cases q
    · rw [(K'.frames.mem hm).1] at q; cases q
  have sg : ∀ b o, g.get? b = some o → b ∉ outer.filterMap (·.frame) → (hideAll s'.heap (e :: (env :: outer).filterMap (·.frame))).get? b = some o := fun b o q nm => hideAll_get _ (F.keep b o q) fun hm => by
    rcases List.mem_cons.mp hm with rfl | hm
    · rw [hge] at q; cases q
    rcases kts_memX hfe hm with z | z
    · rw [z, kts_self F] at q
      cases q
    · exact nm z
  have hl : ∀ q ∈ news, (hideAll s'.heap (e :: (env :: outer).filterMap (·.frame))).get? q.1 = some q.2 ∧ g.get? q.1 = none ∧ base.get? q.1 = none := fun q hq => by
    have z := N q (.tail _ hq)
    refine ⟨hideAll_get _ z.1 fun hm => ?_, z.2.2, fresh_of_stays K.stays z.2.2⟩
    rcases List.mem_cons.mp hm with h9 | hm
    · exact off q hq h9
    rcases kts_memX hfe hm with h9 | h9
    · exact z.2.1 h9
    · obtain ⟨o, ho, _⟩ := (K.frames.mem h9).2
      rw [z.2.2] at ho; cases ho
  have hen : (hideAll s'.heap (e :: (env :: outer).filterMap (·.frame))).get? e = none := hideAll_none _ (.head _)
  refine wpAny_leaving_firstW (a0 := a0) K'.stack (funFrames_hide K'.frames hin) hfe he (fun b o hb => of_hideAll _ hb) hen hd h1 h0 fun h' hL => ?_
  obtain ⟨k1, ⟨_, _, k2⟩, k3, k4⟩ := hL
  exact hQ h' ⟨_, a0, st, sg, hl, k1, hen, k2, k3⟩ ((Heap.UpToSlots.of_keeps F.keep).trans k4)
/-- a raise of an own class passes a frame on -/
theorem pass_ownS {env : Env} (hfe : env.frame = some L) {cls : Value} (K : Below A base outer g) (F : Fr g L g₂ m) (R : RaisedSN base g₂ (env :: outer) e cls news s'.heap) (hsm : g₂.UpToSlots s'.heap)
    (hQ : ∀ h', RaisedSN base g outer e cls news h' → g.UpToSlots h' → Q () { s' with heap := h' }) :
    wpAny M (A.deeper env) (leaving env (.ref e)) Q E s' := by
  obtain ⟨B, a0, hB, hBG, hl, hfl⟩ := R
  exact wpAny_leaves_onW (Around.frames_deeper K.stack) hfe hfl fun h' x1 x2 =>
    hQ h' ⟨B, a0, hB, fun b o q nm => hBG b o (F.keep b o q) (fun hm => by
      rcases kts_memX hfe hm with z | z
      · rw [z, kts_self F] at q
        cases q
      · exact nm z), fun q hq => ⟨(hl q hq).1, kts_none F.keep (hl q hq).2.1, (hl q hq).2.2⟩, x1⟩ ((Heap.UpToSlots.of_keeps F.keep).trans (hsm.trans x2))
end
end
section
open PySem PySem.W PyProof.Rows PySem.Calls PySem.Spec
set_option maxHeartbeats 2000000
open LCg
/-- the end of a test that keeps nothing, on a ground that may have turned -/
noncomputable def TestNo (GP : Heap → Prop) (L : Addr) (m : Str → Option Value) (s₁ : Shared) (all : Led) (ok : Bool) (s₂ : Shared) : Prop :=
  ok = false ∧ ∃ g h' tk, s₂ = { s₁ with heap := h', toks := tk } ∧ GP g ∧ Fr g L h' m ∧ News g L h' all
theorem TestNo.of {GP : Heap → Prop} {L : Addr} {m : Str → Option Value} {s₁ : Shared} {all : Led} {g h' : Heap} {tk : Nat} (G : GP g) (F : Fr g L h' m) (N : News g L h' all) : TestNo GP L m s₁ all false { s₁ with heap := h', toks := tk } := ⟨rfl, g, h', tk, rfl, G, F, N⟩
section
variable {prog : Program} {w : World} {A : Around} {E : Value → Shared → Prop} {s : Shared} {L : Addr} {m : Str → Option Value} {env : Env}
noncomputable def NoneSrc (prog : Program) (w : World) (A : Around) (GP : Heap → Prop) (L : Addr) (m : Str → Option Value) (env : Env) (ct : PySem.Expr) (x : Str) (scope : Scope) (cl : List (Str × Addr)) (Q : Value → Shared → Prop) (xv : Value) (s₁ : Shared) : Prop :=
  ∃ (ax : Addr) (its : Array Value) (k : Nat) (news : Led) (g₁ : Heap), xv = .ref ax ∧ A.handled = none ∧ GP g₁ ∧ Fr g₁ L s₁.heap m ∧ News g₁ L s₁.heap news ∧ (ax, ({ cls := .type "list", data := .seq its k } : Obj)) ∈ news ∧ its.size ≤ sizeLine ∧
    (∀ (i : Nat) v g h I oI C oC D m₂ tk (E' : Value → Shared → Prop), its[i]? = some v → GP g → NsObj oC m₂ → m₂ x = some v → Fr g L h m → News g L h ((I, oI) :: (C, oC) :: (D, lst []) :: news) → Off3 I C D news →
      wpAny (model prog w) A (isTrue ct (compEnvC scope cl C env) (eval ct (compEnvC scope cl C env))) (TestNo GP L m s₁ ((I, oI) :: (C, oC) :: (D, lst []) :: news)) E' { s₁ with heap := h, toks := tk }) ∧
    (∀ D g h tk, GP g → Fr g L h m → News g L h ((D, lst []) :: news) → Q (.ref D) { s₁ with heap := h, toks := tk })
theorem ListComp_none (GP : Heap → Prop) {elt ct iter : PySem.Expr} {x : Str} {px : Pos} {scope : Scope} {cl : List (Str × Addr)} {pos : Pos} {Q : Value → Shared → Prop}
    (hclos : closureFor scope env = pure cl) (hcell : ∀ y ∈ scope.names, y.2 ≠ .cell) (hkind : scope.kind = .function)
    (hnames : ∀ y ∈ scope.names, y.2 = .local → scope.names.lookup y.1 = some .local) (hx : scope.names.lookup x = some .local)
    (h : wpAny (model prog w) A (eval iter env) (NoneSrc prog w A GP L m env ct x scope cl Q) E s)
    (hs : ∀ x, foldedSetIterable iter env x = pure x := by intro _; rfl) :
    wpAny (model prog w) A (eval (.ListComp elt [⟨.Name x px, iter, [ct], 0⟩] scope pos) env) Q E s := by
  rw [eval_ListComp]
  refine wpAny_comprehension_free (use := none) rfl hs hclos hkind hnames (wpAny_mono h (fun xv s₁ h₁ => ?_) fun _ _ e => e)
  obtain ⟨ax, its, kk, news, g₁, rfl, hh, G, F, N, hm, hsz, turn, fin⟩ := h₁
  have hl : s₁.heap.IsList ax its := ⟨_, (N _ hm).1, rfl, _, rfl⟩
  have hltx : ax < s₁.heap.objs.size := Heap.lt_size (N _ hm).1
  refine wpAny_pyIter_list hl ?_
  generalize hs2 : ({ s₁ with heap := s₁.heap.push { cls := .type "list_iterator", data := .fields #[.ref ax, .int 0 0] } } : Shared) = s₂
  have up : ∀ b o, s₁.heap.get? b = some o → s₂.heap.get? b = some o := fun b o e => hs2 ▸ Heap.get?_push_of_some _ e
  have F2 : Fr g₁ L s₂.heap m := F.keeps up
  have N2 : News g₁ L s₂.heap news := N.grown up
  have hI2 : s₂.heap.objs.size = s₁.heap.objs.size + 1 := by rw [← hs2]; exact Heap.size_push ..
  have W := Walks.list (prog := prog) (w := w) (A := A) hh s₁.heap.objs.size ax (Nat.ne_of_lt hltx) its
  have hst : s₂.heap.IsListIter s₁.heap.objs.size ax 0 ∧ s₂.heap.IsList ax its := by subst hs2; exact ⟨⟨_, Heap.get?_push_size _ rfl, rfl, rfl⟩, hl.push _⟩
  generalize hIe : s₁.heap.objs.size = I at *
  have hfp : ∀ b ∈ [I, ax], b < s₂.heap.objs.size := fun b hb => by
    rw [hI2]
    rcases List.mem_cons.mp hb with rfl | hb
    · exact Nat.lt_succ_self _
    · rw [List.mem_singleton.mp hb]; exact Nat.lt_succ_of_lt hltx
  have hIL : L ≠ I := by have z := F.ns.lt; rw [hIe] at z; exact Nat.ne_of_lt z
  have offI : ∀ p ∈ news, p.1 ≠ I := fun p hp => by have z := Heap.lt_size (N p hp).1; rw [hIe] at z; exact Nat.ne_of_lt z
  have hI₀ : g₁.get? I = none := by
    cases e : g₁.get? I with
    | none => rfl
    | some o' => have z := Heap.lt_size (F.keep _ _ e); rw [hIe] at z; exact absurd z (Nat.lt_irrefl _)
  have hs2' : ∀ h' tk', ({ s₂ with heap := h', toks := tk' } : Shared) = { s₁ with heap := h', toks := tk' } := fun _ _ => by subst hs2; rfl
  show wpAny (model prog w) A (newList []) (fun acc s₃ => wpAny (model prog w) A (newFunctionEnv scope env.globals cl [] env.qual none .none (some env)) (fun cenv s₄ =>
      codeAny (model prog w) A (.compStart (.ListComp elt [⟨.Name x px, iter, [ct], 0⟩] scope pos) 0 (.ref I) acc { cenv with scope := relabel scope env }) (compPost (model prog w) A E none Q acc cenv.locals) s₄) E s₃) E s₂
  refine wpAny_newObj_type (wpAny_newFunctionEnv hcell (by intro y hy; simp at hy) (fun h₁ hns₁ hsb₁ => ?_) hkind)
  dsimp only at hns₁ hsb₁ ⊢
  generalize hH2 : s₂.heap.push { cls := .type "list", dict := none, data := .seq ([] : List Value).toArray } = H2 at hns₁ hsb₁ ⊢
  have hC : H2.objs.size = s₂.heap.objs.size + 1 := by rw [← hH2, Heap.size_push]
  have hDC : s₂.heap.objs.size ≠ H2.objs.size := by rw [hC]; exact Nat.ne_of_lt (Nat.lt_succ_self _)
  have below : ∀ b, b < s₂.heap.objs.size → b ≠ H2.objs.size ∧ b ≠ s₂.heap.objs.size := fun b hb => ⟨by rw [hC]; exact Nat.ne_of_lt (Nat.lt_succ_of_lt hb), Nat.ne_of_lt hb⟩
  have hDf : s₂.heap.objs.size ∉ [I, ax] := fun hm => Nat.lt_irrefl _ (hfp _ hm)
  have hCf : H2.objs.size ∉ [I, ax] := fun hm => by have := hfp _ hm; rw [hC] at this; exact Nat.lt_irrefl _ (Nat.lt_of_succ_lt this)
  have hIlt : I < s₂.heap.objs.size := hfp I (by simp)
  have old : ∀ b o, s₂.heap.get? b = some o → h₁.get? b = some o := fun b o e => hsb₁.extBut b o (below b (Heap.lt_size e)).1 (Heap.get?_push_of_some _ (hH2 ▸ Heap.get?_push_of_some _ e))
  have hacc : h₁.get? s₂.heap.objs.size = some (lst []) := hsb₁.extBut _ _ hDC (Heap.get?_push_of_some _ (hH2 ▸ Heap.get?_push_size _ rfl))
  have hst₁ : h₁.IsListIter I ax 0 ∧ h₁.IsList ax its := W.frame _ _ _ hst fun b _ o e => old b o e
  have fresh : ∀ a, s₂.heap.objs.size ≤ a → s₂.heap.get? a = none := fun a ha => by
    cases e : s₂.heap.get? a with
    | none => rfl
    | some o' => exact absurd (Heap.lt_size e) (Nat.not_lt.mpr ha)
  have fresh₀ : ∀ a, s₂.heap.objs.size ≤ a → g₁.get? a = none := fun a ha => by
    cases e : g₁.get? a with
    | none => rfl
    | some o' => have := F2.keep a o' e; rw [fresh a ha] at this; cases this
  have hD₀ : g₁.get? s₂.heap.objs.size = none := fresh₀ _ (Nat.le_refl _)
  have hC₀ : g₁.get? H2.objs.size = none := fresh₀ _ (by rw [hC]; exact Nat.le_succ _)
  have hLlt : L < s₂.heap.objs.size := F2.ns.lt
  have hDL : s₂.heap.objs.size ≠ L := Ne.symm (below L hLlt).2
  have hCL : H2.objs.size ≠ L := Ne.symm (below L hLlt).1
  have hCI : I ≠ H2.objs.size := (below I hIlt).1
  have hDI : I ≠ s₂.heap.objs.size := (below I hIlt).2
  have off₀ : Off3 I H2.objs.size s₂.heap.objs.size news := Off3.of fun p hp => ⟨offI p hp, (below _ (Heap.lt_size (N2 p hp).1)).1, (below _ (Heap.lt_size (N2 p hp).1)).2⟩
  have off3 := off₀.mem
  have loop : ∀ s₃ : Shared, s₃ = { s₂ with heap := h₁, toks := s₂.toks + ([] : List (Str × Value)).length } →
      codeAny (model prog w) A (.compLoop (.ListComp elt [⟨.Name x px, iter, [ct], 0⟩] scope pos) 0 (.ref I) (.ref s₂.heap.objs.size) (compEnvC scope cl H2.objs.size env))
        (compPost (model prog w) A E none Q (.ref s₂.heap.objs.size) H2.objs.size) s₃ := by
    rintro s₃ rfl
    refine codeAny_compLoop_tests
      (fun k s' => ∃ g h' tk i m', s' = { s₂ with heap := h', toks := tk } ∧ i ≤ its.size ∧ k = its.size + 1 - i ∧ (h'.IsListIter I ax i ∧ h'.IsList ax its) ∧ GP g ∧ Fr g L h' m ∧ h'.Ns H2.objs.size m' ∧ g.get? I = none ∧ g.get? H2.objs.size = none ∧ News g L h' ((s₂.heap.objs.size, lst []) :: news)) ?_ (its.size + 1)
      ⟨g₁, h₁, _, 0, _, rfl, Nat.zero_le _, rfl, hst₁, G, F2.keeps old, hns₁, hI₀, hC₀, fun p hp => ?_⟩
    · rintro k s' ⟨g, h', tk, i, m', rfl, hi, rfl, hst', G', F', hn', zI₀, zC₀, N'⟩
      by_cases hlt : i < its.size
      · refine W.item i _ _ _ hlt hst' fun v h₂ tk₂ hPv hst₂ hk₂ => ?_
        refine wpAny_assign_Name (wpAny_storeName_local (lookup_relabel_local hx) (hn'.at' fun o e => hk₂ _ o (by simpa using Ne.symm hCI) e) (fun h₃ hn₃ hs₃ => ?_) (by simp [compEnvC, relabel, hkind]))
        refine wpAny_tests_one ?_
        have hst₃ : h₃.IsListIter I ax (i + 1) ∧ h₃.IsList ax its := W.frame _ _ _ hst₂ fun b hb o e => hs₃.extBut b o (fun q => hCf (by have q' : b = H2.objs.size := q; rw [← q']; exact hb)) e
        obtain ⟨oI, heI, hoI⟩ := hst₃.1
        obtain ⟨oC, heC, hoC⟩ := ns_obj hn₃
        have F₃ : Fr g L h₃ m := (fr_but F' hk₂ hIL zI₀).change hs₃ hCL zC₀
        have N₂ : News g L h₂ ((s₂.heap.objs.size, lst []) :: news) := news_but N' hk₂ fun p hp => by
          rcases List.mem_cons.mp hp with rfl | hp
          · exact Ne.symm hDI
          · exact (off3 p hp).1
        have N₃ : News g L h₃ ((I, oI) :: (H2.objs.size, oC) :: (s₂.heap.objs.size, lst []) :: news) := fun p hp => by
          rcases List.mem_cons.mp hp with rfl | hp
          · exact ⟨heI, Ne.symm hIL, zI₀⟩
          · rcases List.mem_cons.mp hp with rfl | hp
            · exact ⟨heC, hCL, zC₀⟩
            · have z := N₂ p hp
              refine ⟨hs₃.extBut _ _ ?_ z.1, z.2⟩
              rcases List.mem_cons.mp hp with rfl | hp
              · exact hDC
              · exact (off3 p hp).2.1
        have T : ∀ tk', wpAny (model prog w) A (isTrue ct (compEnvC scope cl H2.objs.size env) (eval ct (compEnvC scope cl H2.objs.size env))) (TestNo GP L m s₁ ((I, oI) :: (H2.objs.size, oC) :: (s₂.heap.objs.size, lst []) :: news))
            (notedBy (model prog w) A (compEnvC scope cl H2.objs.size env) fun e s' => compPost (model prog w) A E none Q (.ref s₂.heap.objs.size) H2.objs.size (.error e) s') { s₂ with heap := h₃, toks := tk' } := fun tk' => by
          rw [hs2']
          exact turn i v g h₃ I oI H2.objs.size oC s₂.heap.objs.size _ tk' _ hPv G' hoC (by simp) F₃ N₃ off₀
        refine wpAny_mono (T _) (fun ok s₄ h₄ => ?_) fun _ _ e => e
        obtain ⟨rfl, g₅, h₅, tk₅, rfl, G₅, F₅, N₅⟩ := h₄
        simp only [Bool.false_eq_true, if_false]
        have z1 := (N₅ (I, oI) List.mem_cons_self)
        have z2 := (N₅ (H2.objs.size, oC) (List.mem_cons_of_mem _ List.mem_cons_self))
        have N₅' : News g₅ L h₅ ((s₂.heap.objs.size, lst []) :: news) := fun p hp => N₅ p (List.mem_cons_of_mem _ (List.mem_cons_of_mem _ hp))
        refine ⟨its.size + 1 - (i + 1), by (first | lia | omega), g₅, h₅, tk₅, i + 1, _, (hs2' _ _).symm, hlt, rfl, ⟨⟨oI, z1.1, hoI⟩, ⟨_, (N₅' _ (List.mem_cons_of_mem _ hm)).1, rfl, _, rfl⟩⟩, G₅, F₅, hoC.ns z2.1, z1.2.2, z2.2.2, N₅'⟩
      · obtain rfl : i = its.size := Nat.le_antisymm hi (Nat.not_lt.mp hlt)
        refine W.done _ _ _ hst' fun h₂ tk₂ hk₂ => ?_
        have F₂ := fr_but F' hk₂ hIL zI₀
        have N₂ := news_but N' hk₂ fun p hp => by
          rcases List.mem_cons.mp hp with rfl | hp
          · exact Ne.symm hDI
          · exact (off3 p hp).1
        refine ⟨m', hn'.at' fun o e => hk₂ _ o (by simpa using Ne.symm hCI) e, fun h'' hs'' => ?_⟩
        rw [hs2']
        have f := fin s₂.heap.objs.size g h'' tk₂ G' (F₂.change hs'' hCL zC₀) (fun p hp => by
          refine ⟨hs''.extBut _ _ ?_ (N₂ p hp).1, (N₂ p hp).2⟩
          rcases List.mem_cons.mp hp with rfl | hp
          · exact hDC
          · exact (off3 p hp).2.1)
        exact f
    · rcases List.mem_cons.mp hp with rfl | hp
      · exact ⟨hacc, hDL, hD₀⟩
      · exact ⟨old _ _ (N2 p hp).1, (N2 p hp).2⟩
  exact codeAny_compStart_list (loop _ rfl) (W.self 0 _ _ _ hst₁ (loop _ rfl))
end
end
section
open PySem PySem.W PyProof.Rows PySem.Calls PySem.Spec
open PySem.SeqAt
section
variable {prog : Program} {w : World} {A : Around} {E : Value → Shared → Prop} {s : Shared} {h₀ : Heap} {L : Addr} {news : Led} {a b : Addr} {Q : Value → Shared → Prop}
theorem ne_lists_nil {k k2 : Nat} (N : News h₀ L s.heap news) (ha : (a, ({ cls := .type "list", data := .seq ([] : List Value).toArray k } : Obj)) ∈ news) (hb : (b, ({ cls := .type "list", data := .seq ([] : List Value).toArray k2 } : Obj)) ∈ news) (hu : A.units < cLine)
    (h : Q (.bool false) s) : wpAny (model prog w) A (compareOp .NotEq (.ref a) (.ref b)) Q E s := by
  have hc := RcNeAt.lists (A := A) (s := s) (e := fun _ => true) (items := ([] : List Value).toArray) (items2 := ([] : List Value).toArray) ⟨_, (N _ ha).1, rfl, _, rfl⟩ ⟨_, (N _ hb).1, rfl, _, rfl⟩ rfl hu (fun j h1 h2 => absurd h2 (Nat.not_lt_zero _))
  exact hc prog w E Q h
end
end
section
open PySem PySem.W PyProof.Rows PySem.Calls PySem.Spec
open LCg
/-- a turn of a for loop over a range, on a ground that may have turned -/
noncomputable def ForEnd (GP : Heap → Prop) (L : Addr) (s₁ : Shared) (I : Addr) (oI : Obj) (J : (Str → Option Value) → Led → Prop) (Q : Flow → Shared → Prop) (f : Flow) (s₂ : Shared) : Prop :=
  (∃ v, f = .ret v ∧ Q (.ret v) s₂) ∨ (f = .next ∧ ∃ g h' tk m' news', s₂ = { s₁ with heap := h', toks := tk } ∧ GP g ∧ Fr g L h' m' ∧ News g L h' ((I, oI) :: news') ∧ (∀ p ∈ news', p.1 ≠ I) ∧ J m' news')
theorem ForEnd.of {GP : Heap → Prop} {L : Addr} {s₁ : Shared} {I : Addr} {oI : Obj} {J : (Str → Option Value) → Led → Prop} {Q : Flow → Shared → Prop} {g h' : Heap} {tk : Nat} {m' : Str → Option Value} {news' : Led}
    (G : GP g) (F : Fr g L h' m') (N : News g L h' ((I, oI) :: news')) (off : ∀ p ∈ news', p.1 ≠ I) (j : J m' news') : ForEnd GP L s₁ I oI J Q .next { s₁ with heap := h', toks := tk } := .inr ⟨rfl, g, h', tk, m', news', rfl, G, F, N, off, j⟩
section
variable {prog : Program} {w : World} {A : Around} {E : Value → Shared → Prop} {s : Shared} {env : Env}
noncomputable def RngAt (prog : Program) (w : World) (A : Around) (GP : Heap → Prop) (env : Env) (x : Str) (body : List Stmt) (Q : Flow → Shared → Prop) (E : Value → Shared → Prop) (xv : Value) (s₁ : Shared) : Prop :=
  ∃ (r : Addr) (a b c : Int) (t u v : Tok) (n : Nat) (m : Str → Option Value) (news : Led) (g₁ : Heap) (J : Nat → (Str → Option Value) → Led → Prop), xv = .ref r ∧ A.handled = none ∧ GP g₁ ∧ Fr g₁ env.locals s₁.heap m ∧ News g₁ env.locals s₁.heap news ∧ IsRange s₁.heap r a b c t u v ∧ Builtin.Range.small a b c = true ∧ Builtin.Range.rangeSize a b c = ((n : Nat) : Int) ∧ J 0 m news ∧
    (∀ (i : Nat) (t : Tok) g h tk I oI m₁ news₁, i < n → oI.cls = .type "range_iterator" → GP g → J i m₁ news₁ → Fr g env.locals h (fun y => if y = x then some (.int (a + (i : Int) * c) t) else m₁ y) → News g env.locals h ((I, oI) :: news₁) → (∀ p ∈ news₁, p.1 ≠ I) →
      wpAny (model prog w) A (execs body env) (ForEnd GP env.locals s₁ I oI (J (i + 1)) Q) E { s₁ with heap := h, toks := tk }) ∧
    ∀ g h' tk m' news', GP g → Fr g env.locals h' m' → News g env.locals h' news' → J n m' news' → Q .next { s₁ with heap := h', toks := tk }
theorem For_rngS (GP : Heap → Prop) {Q : Flow → Shared → Prop} {x : Str} {px pos : Pos} {iter : PySem.Expr} {body : List Stmt} (hx : env.kindOf x = some .local)
    (hp : (env.scope.kind == .class || (env.scope.kind == .module && env.locals != env.globals)) = false)
    (h : wpAny (model prog w) A (eval iter env) (RngAt prog w A GP env x body Q E) E s)
    (hs : ∀ x, foldedSetIterable iter env x = pure x := by intro _; rfl)
    (hE : PassesOwn (model prog w) A env E := by passes_own) :
    wpAny (model prog w) A (exec (.For (.Name x px) iter body [] pos) env) Q E s := by
  refine wpAny_For (wpAny_mono h (fun xv s₁ h₁ => ?_) fun _ _ e => e) hs
  obtain ⟨r, a, b, c, t, u, v, n, m, news, g₁, J, rfl, hh, G, F, N, hr, hsm, hn, h0, step, fin⟩ := h₁
  refine wpAny_pyIter_range hr hsm ?_
  generalize hs2 : ({ s₁ with heap := s₁.heap.push { cls := .type "range_iterator", data := .fields #[rawInt a, rawInt (Builtin.Range.rangeSize a b c), rawInt c] } } : Shared) = s₂
  have up : ∀ b o, s₁.heap.get? b = some o → s₂.heap.get? b = some o := fun b o e => hs2 ▸ Heap.get?_push_of_some _ e
  have F2 : Fr g₁ env.locals s₂.heap m := F.keeps up
  have N2 : News g₁ env.locals s₂.heap news := N.grown up
  have W := rng_walks (prog := prog) (w := w) (A := A) (I := s₁.heap.objs.size) hh a c n
  have hst : IsRangeIter s₂.heap s₁.heap.objs.size (a + ((0 : Nat) : Int) * c) ((n : Int) - ((0 : Nat) : Int)) c := by subst hs2; show IsRangeIter _ _ _ _ _; rw [hn]; simpa using Heap.get?_push_size _ rfl
  have hIL : env.locals ≠ s₁.heap.objs.size := Nat.ne_of_lt F.ns.lt
  have hI₀ : g₁.get? s₁.heap.objs.size = none := next_is_new F
  have off : ∀ p ∈ news, p.1 ≠ s₁.heap.objs.size := fun p hp => Nat.ne_of_lt (Heap.lt_size (N p hp).1)
  generalize hIe : s₁.heap.objs.size = I at *
  have hs2' : ∀ h' tk', ({ s₂ with heap := h', toks := tk' } : Shared) = { s₁ with heap := h', toks := tk' } := fun _ _ => by subst hs2; rfl
  refine codeAny_forLoop
    (fun k s' => ∃ g h' tk i m' news', s' = { s₂ with heap := h', toks := tk } ∧ i ≤ n ∧ k = n + 1 - i ∧ IsRangeIter h' I (a + (i : Nat) * c) ((n : Int) - (i : Nat)) c ∧ GP g ∧ Fr g env.locals h' m' ∧ g.get? I = none ∧ News g env.locals h' news' ∧ (∀ p ∈ news', p.1 ≠ I) ∧ J i m' news') ?_ (n + 1)
    ⟨g₁, s₂.heap, s₂.toks, 0, m, news, rfl, Nat.zero_le _, rfl, hst, G, F2, hI₀, N2, off, h0⟩
  rintro k s' ⟨g, h', tk, i, m', news', rfl, hi, rfl, hst', G', F', zI, N', off', j'⟩
  by_cases hlt : i < n
  · refine W.item i _ _ _ hlt hst' fun v h₂ tk₂ hPv hst₂ hk₂ => ?_
    obtain ⟨_, tv, rfl⟩ := hPv
    have F₂ := fr_but F' hk₂ hIL zI
    have N₂ := news_but N' hk₂ off'
    refine wpAny_assign_Name (wpAny_storeName_local hx F₂.ns (fun h₃ hn₃ hs₃ => ?_) hp)
    have F₃ := F₂.set hn₃ hs₃
    have e₃ : h₃.get? I = h₂.get? I := hs₃.2 I (Ne.symm hIL)
    have N₃ : News g env.locals h₃ ((I, _) :: news') := fun p hp => by
      rcases List.mem_cons.mp hp with rfl | hp
      · exact ⟨e₃.trans hst₂, Ne.symm hIL, zI⟩
      · exact (N₂.set hs₃) p hp
    subst hs2
    have T := fun tk' => wpAny_passesOwn hE (step i tv g h₃ tk' I _ m' news' hlt rfl G' j' F₃ N₃ off')
    refine wpAny_mono (T _) (fun f s₃ h₃' => ?_) fun _ _ e => e
    rcases h₃' with ⟨v, rfl, hQ⟩ | ⟨rfl, g₅, h₅, tk₅, m₅, news₅, rfl, G₅, F₅, N₅, off₅, j₅⟩
    · exact hQ
    · have z := N₅ _ List.mem_cons_self
      exact ⟨n + 1 - (i + 1), by (first | lia | omega), g₅, h₅, tk₅, i + 1, m₅, news₅, rfl, hlt, rfl, z.1, G₅, F₅, z.2.2, fun p hp => N₅ p (List.mem_cons_of_mem _ hp), off₅, j₅⟩
  · obtain rfl : i = n := by (first | lia | omega)
    refine W.done _ _ _ hst' fun h₂ tk₂ hk₂ => wpAny_execs_nil ?_
    subst hs2
    exact fin g h₂ tk₂ m' news' G' (fr_but F' hk₂ hIL zI) (news_but N' hk₂ off') j'
end
end
section
open PySem PySem.W PyProof.Rows PySem.Calls PySem.Spec
set_option maxRecDepth 100000
/-- a return from a def under which frames' slots may have turned -/
noncomputable def LeaveT (A₀ : Around) (base : Heap) (env : Env) (outer : List Env) (K : Frag) (p : Program) (loose : List Str) (mean : ExcName → Option Value) (mg mb : Str → Option Value) (g₀ h₀ : Heap) (L : Addr) (m : Str → Option Value) (g : Heap) (R : Result → Shared → Prop) (v : Value) (s' : Shared) : Prop :=
  ∃ g' L' m' news', KtsTurn ((env :: outer).filterMap (·.frame)) g g' ∧ Fr g' L' s'.heap m' ∧ News g' L' s'.heap news' ∧ ∀ h₀', KtsTurn (outer.filterMap (·.frame)) g₀ h₀' → Fr h₀' L s'.heap m → News h₀' L s'.heap news' → Below A₀ base outer h₀' → K.In h₀' → Top p loose mean mg mb h₀' →
    KtsDicts (outer.filterMap (·.frame)) h₀' → R (.ok (.ret v)) s'
theorem leaveT_ {A₀ : Around} {base : Heap} {env : Env} {outer : List Env} {K : Frag} {p : Program} {loose : List Str} {mean : ExcName → Option Value} {mg mb : Str → Option Value} {g₀ h₀ : Heap} {L : Addr} {m : Str → Option Value} {g g' : Heap} {R : Result → Shared → Prop} {v : Value} {s' : Shared} {L' : Addr} {m' : Str → Option Value} {news' : List (Addr × Obj)}
    (F' : Fr g' L' s'.heap m') (N' : News g' L' s'.heap news') (T : KtsTurn ((env :: outer).filterMap (·.frame)) g g')
    (k : ∀ h₀', KtsTurn (outer.filterMap (·.frame)) g₀ h₀' → Fr h₀' L s'.heap m → News h₀' L s'.heap news' → Below A₀ base outer h₀' → K.In h₀' → Top p loose mean mg mb h₀' → KtsDicts (outer.filterMap (·.frame)) h₀' → R (.ok (.ret v)) s') :
    LeaveT A₀ base env outer K p loose mean mg mb g₀ h₀ L m g R v s' := ⟨g', L', m', news', T, F', N', k⟩
section
variable {prog : Program} {w : World} {A₀ A : Around} {s : Shared} {base h₀ g₀ : Heap} {env : Env} {outer : List Env} {L a : Addr} {m : Str → Option Value} {news : List (Addr × Obj)} {K : Frag} {p : Program} {loose : List Str} {mean : ExcName → Option Value} {mg mb : Str → Option Value}
    {R : Result → Shared → Prop} {name qual : Str} {params : Arguments} {body : List Stmt} {scope : Scope} {dV kV doc pm cdv ct oc : Value} {an od : Option Addr} {osl : Array (Option Value)} {f : Addr} {args : Args} {binds : List (Str × Value)}
theorem groundS (B : Below A₀ base outer h₀) (F : Fr h₀ L s.heap m) (N : News h₀ L s.heap news) (T : Top p loose mean mg mb h₀) (XB : K.In base) (TB : Top p loose mean mg mb base) (D : KtsDicts (outer.filterMap (·.frame)) h₀) (T0 : KtsTurn (outer.filterMap (·.frame)) g₀ h₀) (hA : A.frames = some (env :: outer)) (hf : env.frame = some L) (hke : env.scope.kind = .function) :
    KtsDicts ((env :: outer).filterMap (·.frame)) (hideAll s.heap (news.map (·.1))) ∧
    (∀ v s', LeaveT A₀ base env outer K p loose mean mg mb g₀ h₀ L m (hideAll s.heap (news.map (·.1))) R v s' → R (.ok (.ret v)) s') := by
  obtain ⟨FG, BG, st, lv⟩ := groundX (R := R) B F N hA hf hke
  obtain ⟨oL, es, ep, hLg, hLd, hLk, hLf⟩ := FG.ns
  have hNs : ∀ (sl : Array (Option Value)) h', h'.get? L = some { oL with slots := sl } → Heap.Ns h' L m := fun sl h' e => ⟨_, es, ep, e, hLd, hLk, hLf⟩
  have nL₀ : h₀.get? L = none := kts_self F
  refine ⟨fun b hb => ?_, fun v s' hl => ?_⟩
  · rcases kts_memX hf hb with rfl | hb
    · exact ⟨oL, es, ep, hLg, hLd⟩
    · obtain ⟨o, es', n', ho', hd'⟩ := D b hb
      exact ⟨o, es', n', st b o ho', hd'⟩
  obtain ⟨g', L', m', news', T', F', N', k⟩ := hl
  obtain ⟨sl, hs⟩ := T'.up hLg
  obtain ⟨T₁, S₁⟩ := kts_turn_at (h := s'.heap) (fs := outer.filterMap (·.frame)) (g := h₀)
    (fun b hb => by
      obtain ⟨_, o, ho', _⟩ := B.frames.mem hb
      exact ⟨o, ho'⟩)
    (fun b o e nmem => F'.keep b o (T'.other b o (st b o e) (fun q => by
      rcases kts_memX hf q with z | z
      · rw [z, nL₀] at e
        cases e
      · exact nmem z)))
    (fun b o e hm => by
      obtain ⟨sl', hs'⟩ := T'.up (st b o e)
      exact ⟨sl', F'.keep _ _ hs'⟩)
  have B₃ : Below A₀ base outer (ktsHeap s'.heap (outer.filterMap (·.frame)) h₀) := ⟨B.stack, fun b o e => T₁.other b o (B.stays b o e) (fun hm => by
    rw [(B.frames.mem hm).1] at e
    cases e), B.frames.of_keeps fun b o e _ => by
    obtain ⟨sl', hs'⟩ := T₁.up e
    exact ⟨_, hs', rfl⟩⟩
  refine k _ (T0.trans T₁) ⟨hNs sl _ (F'.keep _ _ hs), S₁, by rw [T₁.size]; exact F.above⟩ (fun p hp => ⟨(N' p hp).1, fun q => ?_, ?_⟩) B₃ (XB.keeps B₃.stays) (TB.keeps B₃.stays) (D.turn T₁)
  · have := (N' p hp).2.2; rw [q, hs] at this; cases this
  · refine T₁.none_ _ ?_
    cases q : h₀.get? p.1 with
    | none => rfl
    | some o =>
      obtain ⟨sl', hs'⟩ := T'.up (st _ _ q)
      have := (N' p hp).2.2
      rw [hs'] at this
      cases this
theorem codeT (B : Below A₀ base outer h₀) (F : Fr h₀ L s.heap m) (X₀ : K.In h₀) (N : News h₀ L s.heap news) (T : Top p loose mean mg mb h₀) (XB : K.In base) (TB : Top p loose mean mg mb base) (D : KtsDicts (outer.filterMap (·.frame)) h₀) (T0 : KtsTurn (outer.filterMap (·.frame)) g₀ h₀)
    (hA : A.frames = some (env :: outer)) (hf : env.frame = some L) (hke : env.scope.kind = .function)
    (ho : K.lookup f = some ⟨oc, od, .func (fnOf name qual params body scope dV kV doc pm an cdv ct), osl⟩) (hcd : codeIn K cdv qual = true) (hroom : A.depth < recursionLimit)
    (hbind : BindsTo s (fnOf name qual params body scope dV kV doc pm an cdv ct) args binds) (hloc : ∀ y ∈ binds, scope.names.lookup y.1 = some .local)
    (h : ∀ g L' h₁, Fr h₀ L g m → Fr g L' h₁ (fun y => binds.reverse.lookup y) → News g L' h₁ news → Below A base (env :: outer) g → K.In g → Top p loose mean mg mb g → KtsDicts ((env :: outer).filterMap (·.frame)) g →
      wpAny (model prog w) (A.deeper (envOf qual scope L' f cdv)) (execs body (envOf qual scope L' f cdv))
        (fun fl s' => LeaveT A₀ base env outer K p loose mean mg mb g₀ h₀ L m g R (match fl with | .ret v => v | _ => .none) s')
        (fun e s' => wpAny (model prog w) (A.deeper (envOf qual scope L' f cdv)) (leaving (envOf qual scope L' f cdv) e) (fun _ s'' => R (.error e) s'') (fun e' s'' => R (.error e') s'') s')
        { s with heap := h₁, toks := s.toks + binds.length })
    (hco : scope.isCoroutine = false) (hgen : scope.isGenerator = false) (hk : scope.kind = .function)
    (hcell : ∀ x ∈ scope.names, x.2 ≠ .cell) : codeAny (model prog w) A (.call (.ref f) args) R s := by
  obtain ⟨FG, BG, st, _⟩ := groundX (R := R) B F N hA hf hke
  obtain ⟨DG, lv⟩ := groundS (R := R) (K := K) B F N T XB TB D T0 hA hf hke
  refine codeAny_call_def (fd := fnOf name qual params body scope dV kV doc pm an cdv ct) (body := body) (binds := binds) hroom ((X₀.keeps F.keep) _ _ ho) rfl (T.nolimit.keeps F.keep) (codeRec_of (X₀.keeps F.keep) hcd) rfl hbind hcell hloc (fun h₁ hns hk₁ => ?_) hco hgen hk
  exact wpAny_mono (h _ s.heap.objs.size h₁ FG ⟨hns, fun b o e => hk₁ b o (of_hideAll _ e), Nat.le_of_eq (hideAll_size _ _)⟩
    (fun p hp => ⟨hk₁ _ _ (N p hp).1, Nat.ne_of_lt (Heap.lt_size (N p hp).1), hideAll_none _ (List.mem_map_of_mem hp)⟩) BG (X₀.keeps st) (T.keeps st) DG) (fun fl s' hl => lv _ _ hl) fun _ _ y => y
theorem codeTC (B : Below A₀ base outer h₀) (F : Fr h₀ L s.heap m) (X₀ : K.In h₀) (N : News h₀ L s.heap news) (T : Top p loose mean mg mb h₀) (XB : K.In base) (TB : Top p loose mean mg mb base) (D : KtsDicts (outer.filterMap (·.frame)) h₀) (T0 : KtsTurn (outer.filterMap (·.frame)) g₀ h₀)
    (hA : A.frames = some (env :: outer)) (hf : env.frame = some L) (hke : env.scope.kind = .function)
    (ho : K.lookup f = some ⟨oc, od, .func (fnOf name qual params body scope dV kV doc pm an cdv ct), osl⟩) (hcd : codeIn K cdv qual = true) (hroom : A.depth < recursionLimit)
    (hbind : BindsTo s (fnOf name qual params body scope dV kV doc pm an cdv ct) args binds) (hkind : (binds.all fun y => scope.names.lookup y.1 == some .local || scope.names.lookup y.1 == some .cell) = true)
    (hnd : ((cellsFrom 0 scope.names []).map (·.1)).Nodup)
    (h : ∀ g L' h₁ tk cells, Fr h₀ L g m → Fr g L' h₁ (bindL (envOfC qual scope L' f cdv).kindOf binds fun _ => none) → News g L' h₁ (cells ++ news) →
      CellsAre (bindC (envOfC qual scope L' f cdv).kindOf binds fun _ => none) (cellsFrom (L' + 1) scope.names []) cells → Below A base (env :: outer) g → K.In g → Top p loose mean mg mb g → (∀ p ∈ news, p.1 < L') → KtsDicts ((env :: outer).filterMap (·.frame)) g →
      wpAny (model prog w) (A.deeper (envOfC qual scope L' f cdv)) (execs body (envOfC qual scope L' f cdv))
        (fun fl s' => LeaveT A₀ base env outer K p loose mean mg mb g₀ h₀ L m g R (match fl with | .ret v => v | _ => .none) s')
        (fun e s' => wpAny (model prog w) (A.deeper (envOfC qual scope L' f cdv)) (leaving (envOfC qual scope L' f cdv) e) (fun _ s'' => R (.error e) s'') (fun e' s'' => R (.error e') s'') s')
        { s with heap := h₁, toks := tk })
    (hco : scope.isCoroutine = false) (hgen : scope.isGenerator = false) (hk : scope.kind = .function) : codeAny (model prog w) A (.call (.ref f) args) R s := by
  obtain ⟨FG, BG, st, _⟩ := groundX (R := R) B F N hA hf hke
  obtain ⟨DG, lv⟩ := groundS (R := R) (K := K) B F N T XB TB D T0 hA hf hke
  refine codeAny_call_function hroom ((X₀.keeps F.keep) _ _ ho) rfl hco hgen rfl (codeRec_of (X₀.keeps F.keep) hcd) (hbind _ _ _ _ ?_)
  refine wpAny_newFunctionEnv_cells hk (kindsX hkind _) fun env' he s' x => ?_
  subst he
  refine ⟨(T.nolimit.keeps F.keep).keeps x.toInCall.keep, codeAny_func ?_⟩
  obtain ⟨h₁, tk, rfl, _⟩ := x.done
  have hk₁ := x.toInCall.keep
  obtain ⟨cells, NC, Y⟩ := Cl.news (h₀ := s.heap) (Nat.le_refl _) fun n c hm => ⟨x.cell n c (lookup_of_mem_nodup (cellsFrom_names scope.names 0 (s.heap.objs.size + 1) [] [] rfl ▸ hnd) hm), x.above n c hm⟩
  refine wpAny_mono (h _ s.heap.objs.size h₁ tk cells FG ⟨x.toInCall.ns, fun b o e => hk₁ b o (of_hideAll _ e), Nat.le_of_eq (hideAll_size _ _)⟩ (fun p hp => ?_) Y BG (X₀.keeps st) (T.keeps st) (fun p hp => Heap.lt_size (N p hp).1) DG) (fun fl s' hl => lv _ _ hl) fun _ _ y => y
  rcases List.mem_append.mp hp with hp | hp
  · refine ⟨(NC p hp).1, (NC p hp).2.1, ?_⟩
    cases q : (hideAll s.heap (news.map (·.1))).get? p.1 with
    | none => rfl
    | some o => have := of_hideAll _ q; rw [(NC p hp).2.2] at this; cases this
  · exact ⟨hk₁ _ _ (N p hp).1, Nat.ne_of_lt (Heap.lt_size (N p hp).1), hideAll_none _ (List.mem_map_of_mem hp)⟩
end
section
variable {prog : Program} {w : World} {A₀ : Around} {E : Value → Shared → Prop} {s' : Shared} {base g g₀ G : Heap} {outer : List Env} {L a e : Addr} {m : Str → Option Value} {name : Str} {scope : Scope} {cd : Value}
  {b₀ : Stmt} {suite : List Stmt} {pos np : Pos} {rest : List ExceptHandler} {Q : Flow → Shared → Prop} {news : List (Addr × Obj)} {KF : Frag}
  {p : Program} {loose : List Str} {mean : ExcName → Option Value} {mg mb : Str → Option Value} {x : Str} {C : Addr}
/-- an own class's exception, caught by a local name of that class -/
theorem caught_XL (R : RaisedSN base G (envOf name scope L a cd :: outer) e (.ref C) news s'.heap) (F : Fr g L G m) (K : Below A₀ base outer g) (hsm : G.UpToSlots s'.heap) (XB : KF.In base) (TB : Top p loose mean mg mb base)
    (D : KtsDicts (outer.filterMap (·.frame)) g) (T0 : KtsTurn (outer.filterMap (·.frame)) g₀ g)
    (q : ktsIn KF C "BaseException" = true) (hm : m x = some (.ref C))
    (k : ∀ h' g', KtsTurn (outer.filterMap (·.frame)) g₀ g' → Fr g' L h' m → News g' L h' news → Below A₀ base outer g' → KF.In g' → Top p loose mean mg mb g' → KtsDicts (outer.filterMap (·.frame)) g' →
      wpAny (model prog w) ((A₀.deeper (envOf name scope L a cd)).mark (some (.ref e))) (execs (b₀ :: suite) (envOf name scope L a cd)) Q E { s' with heap := h' })
    (hk : scope.kind = .function := by rfl) (hx : (envOf name scope L a cd).kindOf x = some .local := by rfl) (hd : (x == ("__debug__" : Str)) = false := by decide)
    (hE : PassesOwnAt (model prog w) ((A₀.deeper (envOf name scope L a cd)).mark (some (.ref e))) (A₀.deeper (envOf name scope L a cd)) (envOf name scope L a cd) E := by passes_own) :
    wpAny (model prog w) (A₀.deeper (envOf name scope L a cd)) (noteFrame (.ref e) (envOf name scope L a cd))
      (fun _ s₂ => wpAny (model prog w) (A₀.deeper (envOf name scope L a cd)) (setFlight (.ref e) none) (fun _ s₃ =>
        wpAny (model prog w) (A₀.deeper (envOf name scope L a cd)) (handleBy (.ref e) (envOf name scope L a cd) (.ExceptHandler (some (.Name x np)) none (b₀ :: suite) pos :: rest)) Q E s₃) E s₂) E s' := by
  obtain ⟨B, a0, hB, hBG, hl, hfl⟩ := R
  have hL : B.get? L = none := by
    obtain ⟨_, ⟨L', _, hf, hn', _⟩, _⟩ := hfl.2.2.1
    obtain rfl : L = L' := Option.some.inj hf
    exact hn'
  refine wpAny_looks_onW (Around.frames_deeper K.stack) rfl hfl fun h₄ hheld₄ hsm₄ => ?_
  refine wpAny_landsW hheld₄ fun h₅ hheld hsm₅' => ?_
  have hsm₅ := hsm₄.trans hsm₅'
  obtain ⟨g₅, T₅, F₅, K₅⟩ := kts_ground K F hBG hheld.1 (hsm.trans hsm₅)
  have X₅ : KF.In g₅ := XB.keeps K₅.stays
  obtain ⟨ob, hob, hobc⟩ := hheld.there
  obtain ⟨nm, q', N, bs, bm, hdct, sn, sub, ab, col, dd, k0, k1, k2, k3, k5, newId, hC, hbase, hbT⟩ := kts_cls X₅ q
  have hC₅ := F₅.keep _ _ hC
  refine wpAny_handleBy_cons (codeAny_handlers_test (wpAny_Name (wpAny_loadName_local hk hx F₅.ns hm ?_) hd)) (by intro q; cases q)
  refine wpAny_excMatches_sub_self hC₅ hob hobc hbase (codeAny_handlers_suite ?_)
  refine lands_againW hheld fun h₆ hfl₆ hsm₆ => ?_
  obtain ⟨g₆, T₆, F₆, K₆⟩ := kts_ground K F hBG hfl₆.1 ((hsm.trans hsm₅).trans hsm₆)
  have Nl : News g₆ L h₆ news := fun q hq => ⟨hfl₆.1 _ _ (hl q hq).1, (fun z => by have := (hl q hq).1; rw [z, hL] at this; cases this), T₆.none_ _ (kts_none F.keep (hl q hq).2.1)⟩
  have X₆ : KF.In g₆ := XB.keeps K₆.stays
  have P₆ : Top p loose mean mg mb g₆ := TB.keeps K₆.stays
  have D₆ : KtsDicts (outer.filterMap (·.frame)) g₆ := D.turn T₆
  exact wpAny_passesOwnAt hE (k h₆ g₆ (T0.trans T₆) F₆ Nl K₆ X₆ P₆ D₆)
end
end
section
open PySem PySem.W PyProof.Rows PySem.Calls PySem.Spec
set_option maxRecDepth 100000 in
set_option maxHeartbeats 8000000 in
theorem tag_new (w : World) (news : Led) (t : TagV) :
    Ctr w 230 3 20 [.int t.k t.tk, .int t.p t.tp, .bool t.d, .int t.v t.tv] news (fun R => ∀ x dx a b c e, (∀ q ∈ news, @LT.lt Nat _ q.1 dx) → @LT.lt Nat _ dx x → R ((x, instObj 230 dx) :: (dx, tagDict w t a b c e) :: news) (.ref x)) := by
  k_with_none
  w_top off
  k_with "k_mem" => first | assumption | exact List.mem_cons_self | (refine List.mem_cons_of_mem _ ?_; k_extra "k_mem") | (refine List.mem_append_right _ ?_; k_extra "k_mem") | (refine List.mem_append_left _ ?_; k_extra "k_mem")
  k_with "k_all" => assumption
  k_with "ktr_room" => ((try simp only [depth_under_make, depth_under_kw, depth_in1, depth_deeper, depth_caller]); (try dsimp only [ktrTop]); first | exact room0 (by with_reducible assumption) | exact room1 (by with_reducible assumption) rfl | exact room2 (by with_reducible assumption) rfl | exact room3 (by with_reducible assumption) rfl | exact Nat.le_of_ble_eq_true rfl | lia | omega)
  k_with "k_room" => ktr_room
  k_with "ktr_units" => ((try simp only [units_in1, units_deeper, Around.mark_units, units_caller]); (try dsimp only [ktrTop]); first | exact room0 (by with_reducible assumption) | exact room1 (by with_reducible assumption) rfl | exact room2 (by with_reducible assumption) rfl | exact room3 (by with_reducible assumption) rfl | exact Nat.le_of_ble_eq_true rfl | ((have hcL9 := cLine_is); (first | lia | omega)))
  k_with "k_enter" => (refine' code_def ?k1_0 ?k2_0 ?k3_0 ?k4_0 ?k5_0 ?kA_0 ?kF_0 ?kK_0 ?k6_0 ?k7_0 ?k8_0 ?k9_0 ?kB_0 ?_ ?c2_0 ?c3_0 ?c4_0 ?c5_0; (case kA_0 => exact rfl); (case kF_0 => exact rfl); (case kK_0 => first | exact rfl | assumption); (case k1_0 => k_asm); (case k2_0 => k_asm); (case k3_0 => k_asm); (case k4_0 => k_asm); (case k5_0 => k_asm); (case k6_0 => k_is); (case k7_0 => k_is); (case k8_0 => k_room); (case k9_0 => first | exact BindsTo.of_eq rfl | exact binds_K (by k_in) rfl (by k_is) rfl rfl rfl | fail "k_enter: no rule for these arguments"); (case c5_0 => decide); (case kB_0 => exact locs rfl); (case c2_0 => exact rfl); (case c3_0 => exact rfl); (case c4_0 => exact rfl); k_whole; intro _ _ _ _ _ _ B' _ _; (try dsimp only); (try k_lift B'); (try k_fold))
  k_with "o call type:tuple" => (k_here; (with_reducible show wpAny _ _ (call (Value.type _) [Value.ref _]) _ _ _); k_dflt (refine call_tuple_tup (News.isTup (by k_asm) (by k_extra "k_mem")) ?_))
  k_with "o call type:bytes" => (k_here; (with_reducible show wpAny _ _ (call (Value.type _) [Value.bytes _ _]) _ _ _); refine call_bytes_same ?_)
  k_with "o call type:tuple" => (k_here; (with_reducible show wpAny _ _ (call (Value.type _) [Value.ref _]) _ _ _); k_dflt (refine' tupleOf_ys ?F_1 ?N_1 ?hm_1 ?hz_1 ?_; (case F_1 => k_asm); (case N_1 => k_asm); (case hm_1 => k_extra "k_mem"); (case hz_1 => first | assumption | exact Nat.le_of_ble_eq_true rfl); k_whole); intro _ _ _ _ _; (try k_sweep))
  intro p loose mean mg mb dp un gd cn cs ad ccd cl outer A₀ base h₀ L m s Q E B F X N T hk hd' hu hret
  k_steps
  all_goals exact hret _ _ _ _ _ _ (by assumption) (by assumption) _ _ (by assumption) (by assumption)
set_option maxRecDepth 100000 in
set_option maxHeartbeats 8000000 in
theorem tag_told (w : World) (news : Led) (x : Addr) (t : TagV) (ht : IsTag w news x t) :
    Ctr w 227 3 20 [.ref x] news (fun R => ∀ y, (∀ q ∈ news, @LT.lt Nat _ q.1 y) → R ((y, rowObj t) :: news) (.ref y)) := by
  w_top off
  obtain ⟨dx, a, b, c, e, hx, hdx⟩ := ht
  intro p loose mean mg mb dp un gd cn cs ad ccd cl outer A₀ base h₀ L m s Q E B F X N T hk hd' hu hret
  k_steps
  all_goals exact hret _ (by assumption) _ _ (by assumption) (by assumption)
set_option maxRecDepth 100000 in
set_option maxHeartbeats 8000000 in
theorem frame_new (w : World) (news : Led) (f : FrameV) (tu : Addr) (vs : List Value) (ht : (tu, tupObj vs) ∈ news) :
    Ctr w 264 3 20 [.int f.tg f.tt, .int f.sr f.ts, .ref tu, .int f.kd f.tk, .bytes f.pb f.tp] news (fun R => ∀ x dx a b c d e tp, (∀ q ∈ news, @LT.lt Nat _ q.1 dx) → @LT.lt Nat _ dx x → R ((x, instObj 264 dx) :: (dx, frameDict w { f with tp := tp } tu a b c d e) :: news) (.ref x)) := by
  w_top off
  intro p loose mean mg mb dp un gd cn cs ad ccd cl outer A₀ base h₀ L m s Q E B F X N T hk hd' hu hret
  k_steps
  all_goals exact hret _ _ _ _ _ _ _ _ (by assumption) (by assumption) _ _ (by assumption) (by assumption)
end
section
open PySem PySem.W PyProof.Rows PySem.Calls PySem.Spec
theorem told_end {h₀ h' : Heap} {L y T D : Addr} {vs ws : List Value} {oD : Obj} {tl news : Led} (N : News h₀ L h' ((y, tupObj vs) :: (T, tupObj ws) :: (D, oD) :: (tl ++ news))) (l1 : T < y ∧ D < y ∧ AllLt y (tl ++ news)) (lT : ∀ p ∈ (D, oD) :: (tl ++ news), p.1 < T) (hab : Abv news tl) (hnl : NoList tl) :
    Abv news ((y, tupObj vs) :: (T, tupObj ws) :: tl) ∧ NoList ((y, tupObj vs) :: (T, tupObj ws) :: tl) ∧ News h₀ L h' (((y, tupObj vs) :: (T, tupObj ws) :: tl) ++ news) := by
  refine ⟨fun q hq p hp => ?_, fun p hp => ?_, cb_drop N fun p hp => ?_⟩
  · rcases List.mem_cons.mp hp with rfl | hp
    · exact ktn_ltOf l1.2.2 q (by simp [hq])
    · rcases List.mem_cons.mp hp with rfl | hp
      · exact lT q (by simp [hq])
      · exact hab q hq p hp
  · rcases List.mem_cons.mp hp with rfl | hp
    · simp
    · rcases List.mem_cons.mp hp with rfl | hp
      · simp
      · exact hnl p hp
  · simp only [List.cons_append, List.mem_cons] at hp ⊢
    rcases hp with h | h | h
    · exact .inl h
    · exact .inr (.inl h)
    · exact .inr (.inr (.inr h))
set_option maxRecDepth 100000 in
set_option maxHeartbeats 8000000 in
theorem frame_told (w : World) (news : Led) (x : Addr) (f : FrameV) (xs : List Addr) (ts : List TagV) (hf : IsFrm w news x f xs) (ht : TagsAt w news xs ts) (hn : ts.length ≤ 5) :
    Ctr w 253 5 40 [.ref x] news (fun R => ∀ tl y T rows, NoList tl → Abv news tl → (y, tupObj [.int f.tg f.tt, .int f.sr f.ts, .ref T, .int f.kd f.tk, .bytes f.pb f.tp]) ∈ tl → (T, tupObj (rows.map .ref)) ∈ tl → RowsAt (tl ++ news) rows ts → R (tl ++ news) (.ref y)) := by
  w_top off
  k_with "o eval ListComp" => (k_here; k_dflt (refine ListComp_tup (by k_asm) (by rfl) (by decide) (by rfl) (by decide) (by rfl) ?_))
  k_with "o call ref" => (k_here; (with_reducible show wpAny _ _ (call (Value.ref 227) _) _ _ _); k_dflt (refine' Ctr.use (tag_told _ _ _ _ ?kc_2) ?k1_2 ?k2_2 ?k3_2 ?k4_2 ?k5_2 ?kK_2 ?kd_2 ?ku_2 ?_; (case k1_2 => k_asm); (case k2_2 => k_asm); (case k3_2 => k_asm); (case k4_2 => k_asm); (case k5_2 => k_asm); (case kK_2 => first | exact rfl | assumption); (case kd_2 => ktr_room); (case ku_2 => ktr_units); (case kc_2 => assumption); k_whole; intros; (try dsimp only); (try k_sweep); (try k_fold)))
  obtain ⟨dx, tu, a, b, c, d, e, hx, hdx, htu⟩ := hf
  intro p loose mean mg mb dp un gd cn cs ad ccd cl outer A₀ base h₀ L m s Q E B F X N T hk hd' hu hret
  have hlen : (xs.map Value.ref).length ≤ sizeLine := by rw [List.length_map, ht.length, sizeLine_eq]; (first | lia | omega)
  k_steps
  refine ⟨tu, xs.map .ref, news, rfl, rfl, by k_asm, by k_asm, htu, hlen, fun g => compRest_inv (n := (xs.map Value.ref).length) (fun i ys nw => ∃ (yas : List Addr) (tl : Led), ys = yas.map .ref ∧ nw = tl ++ news ∧ NoList tl ∧ Abv news tl ∧ RowsAt nw yas (ts.take i)) ?_ ?_ _ 0 [] _ (Nat.zero_add _) ⟨[], [], rfl, rfl, (fun _ h => nomatch h), (fun _ _ _ h => nomatch h), trivial⟩⟩
  · rintro i ys nw v R hi ⟨yas, tl, rfl, rfl, hnl, hab, hrows⟩ hv hR I oI C oC D m₂ h tk E' hNs hx2 F2 N2 off ne
    obtain ⟨xt, hxt, rfl⟩ : ∃ xt, xs[i]? = some xt ∧ Value.ref xt = v := by simpa using hv
    obtain ⟨t, hti, htag⟩ := ht.get hxt
    have htag' : IsTag w ((I, oI) :: (C, oC) :: (D, LCg.lst (yas.map .ref)) :: (tl ++ news)) xt t := htag.mono fun p hp => by simp [hp]
    obtain ⟨dxt, q1, q2, q3, q4, hm1, hm2⟩ := htag
    k_steps
    rename_i y hy h' tk' F' N'
    refine compEnd_push F' N' hy off (by simp [htu]) (hR _ _ ⟨yas ++ [y], (y, rowObj t) :: tl, by simp, rfl, ?_, ?_, ?_⟩)
    · intro q hq; rcases List.mem_cons.mp hq with rfl | hq; · simp
      exact hnl q hq
    · intro q hq r hr; rcases List.mem_cons.mp hr with rfl | hr
      · exact hy q (by simp [hq])
      · exact hab q hq r hr
    · rw [List.take_add_one, hti]
      exact RowsAt.snoc (by simp) (hrows.mono fun q hq => by simp [hq])
  · rintro ys nw ⟨yas, tl, rfl, rfl, hnl, hab, hrows⟩
    have hz9 : (yas.map Value.ref).length ≤ 16384 := by
      have := hrows.length
      rw [List.length_take] at this
      rw [List.length_map]; (first | lia | omega)
    k_steps
    obtain ⟨a1, a2, a3⟩ := told_end (by assumption) (by assumption) (by assumption) hab hnl
    exact hret _ _ _ yas a2 a1 (.head _) (.tail _ (.head _)) (by
      have e : ts.take (xs.map Value.ref).length = ts := by rw [List.length_map, ht.length]; simp
      rw [e] at hrows
      exact hrows.mono fun q hq => by simp only [List.cons_append, List.mem_cons]; exact .inr (.inr hq)) _ _ (by assumption) a3
end
section
open PySem PySem.W PyProof.Rows PySem.Calls PySem.Spec
noncomputable abbrev srcObj (a b : Int) (ta tb : Tok) (n : Nat) : Obj := W.listOf #[.int a ta, .int b tb] n
theorem src_g0 (a b : Int) : [a, b].getD (Int.toNat 0) 0 = a := rfl
theorem src_g1 (a b : Int) : [a, b].getD (Int.toNat 1) 0 = b := rfl
section
variable {prog : Program} {w : World} {A : Around} {E : Value → Shared → Prop} {s : Shared} {Q : Value → Shared → Prop} {a b : Int} {t u : Tok}
theorem mod_any (hb : 0 < b) (h : ∀ r, 0 ≤ r → r < b → Q (.int r s.toks) { s with toks := s.toks + 1 }) : wpAny (model prog w) A (binaryOp .Mod (.int a t) (.int b u)) Q E s := by
  refine PyProof.Rows.mod_int' (by (first | lia | omega)) (h _ ?_ ?_)
  · rw [Int.fmod_eq_emod_of_nonneg _ (by (first | lia | omega))]; exact Int.emod_nonneg _ (by (first | lia | omega))
  · rw [Int.fmod_eq_emod_of_nonneg _ (by (first | lia | omega))]; exact Int.emod_lt_of_pos _ hb
theorem mul_any (h1 : -(2 ^ 63) ≤ a) (h2 : a < 2 ^ 63) (h : Q (.int (a * b) s.toks) { s with toks := s.toks + 1 }) : wpAny (model prog w) A (binaryOp .Mult (.int a t) (.int b u)) Q E s := by
  exact PyProof.Rows.mul_int h (IntMulOk.of_left (intBits_le_64 (by (first | lia | omega)) (by (first | lia | omega))))
end
theorem fdiv_nn {a b : Int} (ha : 0 ≤ a) (hb : 0 < b) : 0 ≤ a.fdiv b := by
  rw [Int.fdiv_eq_ediv_of_nonneg _ (by (first | lia | omega))]; exact Int.ediv_nonneg ha (by (first | lia | omega))
section
set_option maxRecDepth 100000 in
set_option maxHeartbeats 8000000 in
theorem take_ok (w : World) (rest : Led) (src : Addr) (a b : Int) (ta tb : Tok) (n : Nat) (top : Int) (tt : Tok) (hoff : ∀ p ∈ rest, p.1 ≠ src) (ht1 : 0 < top) (ht2 : top < 5000) (ha : 0 ≤ a) (hb1 : 0 ≤ b) (hb2 : b < 2147483647) :
    Ctr w 380 3 20 [.ref src, .int top tt] ((src, srcObj a b ta tb n) :: rest) (fun R => ∀ a' b' ta' tb' v tv, 0 ≤ a' → 0 ≤ b' → b' < 2147483647 → 0 ≤ v → v < top → R ((src, srcObj a' b' ta' tb' n) :: rest) (.int v tv)) := by
  k_with_none
  w_top off
  k_with "k_mem" => first | assumption | exact List.mem_cons_self | (refine List.mem_cons_of_mem _ ?_; k_extra "k_mem") | (refine List.mem_append_right _ ?_; k_extra "k_mem") | (refine List.mem_append_left _ ?_; k_extra "k_mem")
  k_with "k_all" => assumption
  k_with "ktr_room" => ((try simp only [depth_under_make, depth_under_kw, depth_in1, depth_deeper, depth_caller]); (try dsimp only [ktrTop]); first | exact room0 (by with_reducible assumption) | exact room1 (by with_reducible assumption) rfl | exact room2 (by with_reducible assumption) rfl | exact room3 (by with_reducible assumption) rfl | exact Nat.le_of_ble_eq_true rfl | lia | omega)
  k_with "k_room" => ktr_room
  k_with "ktr_units" => ((try simp only [units_in1, units_deeper, Around.mark_units, units_caller]); (try dsimp only [ktrTop]); first | exact room0 (by with_reducible assumption) | exact room1 (by with_reducible assumption) rfl | exact room2 (by with_reducible assumption) rfl | exact room3 (by with_reducible assumption) rfl | exact Nat.le_of_ble_eq_true rfl | ((have hcL9 := cLine_is); (first | lia | omega)))
  k_with "k_enter" => (refine' code_def ?k1_0 ?k2_0 ?k3_0 ?k4_0 ?k5_0 ?kA_0 ?kF_0 ?kK_0 ?k6_0 ?k7_0 ?k8_0 ?k9_0 ?kB_0 ?_ ?c2_0 ?c3_0 ?c4_0 ?c5_0; (case kA_0 => exact rfl); (case kF_0 => exact rfl); (case kK_0 => first | exact rfl | assumption); (case k1_0 => k_asm); (case k2_0 => k_asm); (case k3_0 => k_asm); (case k4_0 => k_asm); (case k5_0 => k_asm); (case k6_0 => k_is); (case k7_0 => k_is); (case k8_0 => k_room); (case k9_0 => first | exact BindsTo.of_eq rfl | exact binds_K (by k_in) rfl (by k_is) rfl rfl rfl | fail "k_enter: no rule for these arguments"); (case c5_0 => decide); (case kB_0 => exact locs rfl); (case c2_0 => exact rfl); (case c3_0 => exact rfl); (case c4_0 => exact rfl); k_whole; intro _ _ _ _ _ _ B' _ _; (try dsimp only); (try k_lift B'); (try k_fold))
  k_with "o call type:tuple" => (k_here; (with_reducible show wpAny _ _ (call (Value.type _) [Value.ref _]) _ _ _); k_dflt (refine call_tuple_tup (News.isTup (by k_asm) (by k_extra "k_mem")) ?_))
  k_with "o call type:bytes" => (k_here; (with_reducible show wpAny _ _ (call (Value.type _) [Value.bytes _ _]) _ _ _); refine call_bytes_same ?_)
  k_with "o call type:tuple" => (k_here; (with_reducible show wpAny _ _ (call (Value.type _) [Value.ref _]) _ _ _); k_dflt (refine' tupleOf_ys ?F_1 ?N_1 ?hm_1 ?hz_1 ?_; (case F_1 => k_asm); (case N_1 => k_asm); (case hm_1 => k_extra "k_mem"); (case hz_1 => first | assumption | exact Nat.le_of_ble_eq_true rfl); k_whole); intro _ _ _ _ _; (try k_sweep))
  k_with "o binaryOp Mod int int" => ((with_reducible show wpAny _ _ (binaryOp Operator.Mod (Value.int _ _) (Value.int _ _)) _ _ _); (try simp only [src_g0, src_g1]); refine mod_any (by (first | lia | omega)) ?_; intro _ _ _)
  k_with "o binaryOp Mult int int" => ((with_reducible show wpAny _ _ (binaryOp Operator.Mult (Value.int _ _) (Value.int _ _)) _ _ _); (try simp only [src_g0, src_g1]); refine mul_any (by (first | lia | omega)) (by (first | lia | omega)) ?_)
  intro p loose mean mg mb dp un gd cn cs ad ccd cl outer A₀ base h₀ L m s Q E B F X N T hk hd' hu hret
  k_steps
  all_goals (
    refine' hret _ _ _ _ _ _ ?_ ?_ ?_ ?_ ?_ _ _ ?_ ?_
    any_goals (with_reducible show Fr _ _ _ _; assumption)
    any_goals (with_reducible show News _ _ _ _; assumption)
    first | assumption | (simp only [src_g0]; exact fdiv_nn ha ht1)
    all_goals assumption)
end
end
section
open PySem PySem.W PyProof.Rows PySem.Calls PySem.Spec
theorem off_cons {rest : Led} {q : Addr × Obj} {src : Addr} (h : ∀ p ∈ rest, p.1 ≠ src) (hq : q.1 ≠ src) : ∀ p ∈ q :: rest, p.1 ≠ src := fun p hp => by
  rcases List.mem_cons.mp hp with rfl | hp
  · exact hq
  · exact h p hp
theorem news_swap {h₀ h : Heap} {L : Addr} {p q : Addr × Obj} {r : Led} (N : News h₀ L h (p :: q :: r)) : News h₀ L h (q :: p :: r) := fun x hx => N x (by
  simp only [List.mem_cons] at hx ⊢
  rcases hx with h | h | h
  · exact .inr (.inl h)
  · exact .inl h
  · exact .inr (.inr h))
theorem item_led {prog : Program} {w : World} {A : Around} {E : Value → Shared → Prop} {s : Shared} {value slice : PySem.Expr} {l : Addr} {vs : List Value} {k : Int} {u : Tok} {Q : Value → Shared → Prop}
    (hl : s.heap.IsList l vs.toArray) (h0 : 0 ≤ k) (hk : k < (vs.length : Int)) (hz : vs.length ≤ 5000) (h : ∀ i (hi : i < vs.length), Q vs[i] s)
    (hs : subscripted slice false (.ref l) (.int k u) = operate [.ref l, .int k u] (getItem (.ref l) (.int k u)) := by with_unfolding_all rfl) :
    wpAny (model prog w) A (subscriptTail value slice (.ref l) (.int k u)) Q E s :=
  have hi : k.toNat < vs.length := by (first | lia | omega)
  tail_any hl.typeIs slot_list_getitem.lookup (wpAny_getItem_list hl h0 (by (first | lia | omega)) (x := vs[k.toNat]) (by simp [hi]) (h _ _)) hs
theorem len_led {prog : Program} {w : World} {A : Around} {E : Value → Shared → Prop} {s : Shared} {l : Addr} {vs : List Value} {Q : Value → Shared → Prop} (hl : s.heap.IsList l vs.toArray) (hz : vs.length ≤ 5000)
    (h : Q (.int (vs.length : Int) (s.toks + 1)) { s with toks := s.toks + 1 + 1 }) : wpAny (model prog w) A (call (.builtin "len") [.ref l]) Q E s :=
  PyProof.Rows.len_list hl (by simp; (first | lia | omega)) (by simpa using h)
theorem len_ledT {prog : Program} {w : World} {A : Around} {E : Value → Shared → Prop} {s : Shared} {l : Addr} {vs : List Value} {Q : Value → Shared → Prop} (hl : IsTup s.heap l vs.toArray) (hz : vs.length ≤ 5000)
    (h : Q (.int (vs.length : Int) (s.toks + 1)) { s with toks := s.toks + 1 + 1 }) : wpAny (model prog w) A (call (.builtin "len") [.ref l]) Q E s :=
  PyProof.Rows.len_tuple hl (by simp; (first | lia | omega)) (by simpa using h)
section
set_option maxRecDepth 100000 in
set_option maxHeartbeats 8000000 in
theorem one_ok (w : World) (rest : Led) (src th : Addr) (vs : List Value) (c : Nat) (a b : Int) (ta tb : Tok) (n : Nat) (hoff : ∀ p ∈ rest, p.1 ≠ src) (hth : (th, W.listOf vs.toArray c) ∈ rest) (hz1 : 0 < vs.length) (hz2 : vs.length < 5000) (ha : 0 ≤ a) (hb1 : 0 ≤ b) (hb2 : b < 2147483647) :
    Ctr w 387 6 40 [.ref src, .ref th] ((src, srcObj a b ta tb n) :: rest) (fun R => ∀ a' b' ta' tb' i (hi : i < vs.length), 0 ≤ a' → 0 ≤ b' → b' < 2147483647 → R ((src, srcObj a' b' ta' tb' n) :: rest) vs[i]) := by
  k_with_none
  w_top off
  k_with "k_mem" => first | assumption | exact List.mem_cons_self | (refine List.mem_cons_of_mem _ ?_; k_extra "k_mem") | (refine List.mem_append_right _ ?_; k_extra "k_mem") | (refine List.mem_append_left _ ?_; k_extra "k_mem")
  k_with "k_all" => assumption
  k_with "ktr_room" => ((try simp only [depth_under_make, depth_under_kw, depth_in1, depth_deeper, depth_caller]); (try dsimp only [ktrTop]); first | exact room0 (by with_reducible assumption) | exact room1 (by with_reducible assumption) rfl | exact room2 (by with_reducible assumption) rfl | exact room3 (by with_reducible assumption) rfl | exact Nat.le_of_ble_eq_true rfl | lia | omega)
  k_with "k_room" => ktr_room
  k_with "ktr_units" => ((try simp only [units_in1, units_deeper, Around.mark_units, units_caller]); (try dsimp only [ktrTop]); first | exact room0 (by with_reducible assumption) | exact room1 (by with_reducible assumption) rfl | exact room2 (by with_reducible assumption) rfl | exact room3 (by with_reducible assumption) rfl | exact Nat.le_of_ble_eq_true rfl | ((have hcL9 := cLine_is); (first | lia | omega)))
  k_with "k_enter" => (refine' code_def ?k1_0 ?k2_0 ?k3_0 ?k4_0 ?k5_0 ?kA_0 ?kF_0 ?kK_0 ?k6_0 ?k7_0 ?k8_0 ?k9_0 ?kB_0 ?_ ?c2_0 ?c3_0 ?c4_0 ?c5_0; (case kA_0 => exact rfl); (case kF_0 => exact rfl); (case kK_0 => first | exact rfl | assumption); (case k1_0 => k_asm); (case k2_0 => k_asm); (case k3_0 => k_asm); (case k4_0 => k_asm); (case k5_0 => k_asm); (case k6_0 => k_is); (case k7_0 => k_is); (case k8_0 => k_room); (case k9_0 => first | exact BindsTo.of_eq rfl | exact binds_K (by k_in) rfl (by k_is) rfl rfl rfl | fail "k_enter: no rule for these arguments"); (case c5_0 => decide); (case kB_0 => exact locs rfl); (case c2_0 => exact rfl); (case c3_0 => exact rfl); (case c4_0 => exact rfl); k_whole; intro _ _ _ _ _ _ B' _ _; (try dsimp only); (try k_lift B'); (try k_fold))
  k_with "o call type:tuple" => (k_here; (with_reducible show wpAny _ _ (call (Value.type _) [Value.ref _]) _ _ _); k_dflt (refine call_tuple_tup (News.isTup (by k_asm) (by k_extra "k_mem")) ?_))
  k_with "o call type:bytes" => (k_here; (with_reducible show wpAny _ _ (call (Value.type _) [Value.bytes _ _]) _ _ _); refine call_bytes_same ?_)
  k_with "o call type:tuple" => (k_here; (with_reducible show wpAny _ _ (call (Value.type _) [Value.ref _]) _ _ _); k_dflt (refine' tupleOf_ys ?F_1 ?N_1 ?hm_1 ?hz_1 ?_; (case F_1 => k_asm); (case N_1 => k_asm); (case hm_1 => k_extra "k_mem"); (case hz_1 => first | assumption | exact Nat.le_of_ble_eq_true rfl); k_whole); intro _ _ _ _ _; (try k_sweep))
  k_with "o call ref" => (k_here; (with_reducible show wpAny _ _ (call (Value.ref 380) _) _ _ _); k_dflt (refine' Ctr.use (take_ok _ _ _ _ _ _ _ _ _ _ ?c1_3 ?c2_3 ?c3_3 ?c4_3 ?c5_3 ?c6_3) ?k1_3 ?k2_3 ?k3_3 ?k4_3 ?k5_3 ?kK_3 ?kd_3 ?ku_3 ?_; (case k1_3 => k_asm); (case k2_3 => k_asm); (case k3_3 => k_asm); (case k4_3 => k_asm); (case k5_3 => k_asm); (case kK_3 => first | exact rfl | assumption); (case kd_3 => ktr_room); (case ku_3 => ktr_units); (case c1_3 => assumption); (case c2_3 => first | exact Nat.le_of_ble_eq_true rfl | lia | omega); (case c3_3 => first | exact Nat.le_of_ble_eq_true rfl | lia | omega); (case c4_3 => assumption); (case c5_3 => assumption); (case c6_3 => assumption); k_whole; intros; (try dsimp only); (try k_sweep); (try k_fold)))
  k_with "o subscriptTail" => (k_here; (with_reducible show wpAny _ _ (subscriptTail _ _ (Value.ref _) (Value.int _ _)) _ _ _); k_dflt (refine item_led (News.isList (by k_asm) (by k_extra "k_mem")) (by assumption) (by assumption) (by (first | lia | omega)) ?_); intro _ _)
  k_with "o call builtin:len" => (k_here; (with_reducible show wpAny _ _ (call (Value.builtin _) [Value.ref _]) _ _ _); k_dflt (refine len_led (News.isList (by k_asm) (by k_extra "k_mem")) (by (first | lia | omega)) ?_))
  intro p loose mean mg mb dp un gd cn cs ad ccd cl outer A₀ base h₀ L m s Q E B F X N T hk hd' hu hret
  k_steps
  all_goals (
    refine' hret _ _ _ _ _ ?_ ?_ ?_ ?_ _ _ ?_ ?_
    any_goals (with_reducible show Fr _ _ _ _; assumption)
    any_goals (with_reducible show News _ _ _ _; assumption)
    all_goals assumption)
end
theorem one_int (P : Int → Prop) (w : World) (rest : Led) (src th : Addr) (vs : List Value) (c : Nat) (a b : Int) (ta tb : Tok) (n : Nat) (hoff : ∀ p ∈ rest, p.1 ≠ src) (hth : (th, W.listOf vs.toArray c) ∈ rest) (hz1 : 0 < vs.length) (hz2 : vs.length < 5000) (ha : 0 ≤ a) (hb1 : 0 ≤ b) (hb2 : b < 2147483647)
    (hP : ∀ v ∈ vs, ∃ k t, v = Value.int k t ∧ P k) :
    Ctr w 387 6 40 [.ref src, .ref th] ((src, srcObj a b ta tb n) :: rest) (fun R => ∀ a' b' ta' tb' k t, P k → 0 ≤ a' → 0 ≤ b' → b' < 2147483647 → R ((src, srcObj a' b' ta' tb' n) :: rest) (.int k t)) := by
  intro p loose mean mg mb dp un gd cn cs ad ccd cl outer A₀ base h₀ L m s Q E B F X N T hk hd' hu hret
  refine Ctr.use (one_ok w rest src th vs c a b ta tb n hoff hth hz1 hz2 ha hb1 hb2) B F X N T hk hd' hu ?_
  intro a' b' ta' tb' i hi h1 h2 h3 h' tk' F' N'
  obtain ⟨k, t, e, hk'⟩ := hP _ (List.getElem_mem hi)
  rw [e]
  exact hret a' b' ta' tb' k t hk' h1 h2 h3 h' tk' F' N'
noncomputable def RowOk (t : TagV) : Prop := (t.k = 33024 ∨ t.k = 34984) ∧ 0 ≤ t.p ∧ t.p < 8 ∧ 0 ≤ t.v ∧ t.v < 4095
end
section
open PySem PySem.W PyProof.Rows PySem.Calls PySem.Spec
theorem row_fin {h₀ h : Heap} {L src y l1 l2 : Addr} {k p v a b : Int} {tk tp tv ta tb : Tok} {d : Bool} {n : Nat} {o1 o2 : Obj} {rest : Led}
    (N : News h₀ L h ((y, ({ cls := .type "tuple", data := .seq #[.int k tk, .int p tp, .bool d, .int v tv] } : Obj)) :: (src, srcObj a b ta tb n) :: (l2, o2) :: (l1, o1) :: rest)) :
    News h₀ L h ((src, srcObj a b ta tb n) :: (y, rowObj ⟨k, tk, p, tp, d, v, tv⟩) :: rest) := News.perm N fun q hq => by
  simp only [List.mem_cons] at hq ⊢
  rcases hq with h9 | h9 | h9
  · exact .inr (.inl h9)
  · exact .inl h9
  · simp only [h9, or_true]
section
set_option maxRecDepth 100000 in
set_option maxHeartbeats 8000000 in
theorem row_ok (w : World) (rest : Led) (src : Addr) (a b : Int) (ta tb : Tok) (n : Nat) (hoff : ∀ p ∈ rest, p.1 ≠ src) (ha : 0 ≤ a) (hb1 : 0 ≤ b) (hb2 : b < 2147483647) :
    Ctr w 394 9 60 [.ref src] ((src, srcObj a b ta tb n) :: rest) (fun R => ∀ a' b' ta' tb' y t, 0 ≤ a' → 0 ≤ b' → b' < 2147483647 → RowOk t → (∀ q ∈ rest, @LT.lt Nat _ q.1 y) → @LT.lt Nat _ src y → R ((src, srcObj a' b' ta' tb' n) :: (y, rowObj t) :: rest) (.ref y)) := by
  k_with_none
  w_top off
  k_with "k_mem" => first | assumption | exact List.mem_cons_self | (refine List.mem_cons_of_mem _ ?_; k_extra "k_mem") | (refine List.mem_append_right _ ?_; k_extra "k_mem") | (refine List.mem_append_left _ ?_; k_extra "k_mem")
  k_with "k_all" => assumption
  k_with "ktr_room" => ((try simp only [depth_under_make, depth_under_kw, depth_in1, depth_deeper, depth_caller]); (try dsimp only [ktrTop]); first | exact room0 (by with_reducible assumption) | exact room1 (by with_reducible assumption) rfl | exact room2 (by with_reducible assumption) rfl | exact room3 (by with_reducible assumption) rfl | exact Nat.le_of_ble_eq_true rfl | lia | omega)
  k_with "k_room" => ktr_room
  k_with "ktr_units" => ((try simp only [units_in1, units_deeper, Around.mark_units, units_caller]); (try dsimp only [ktrTop]); first | exact room0 (by with_reducible assumption) | exact room1 (by with_reducible assumption) rfl | exact room2 (by with_reducible assumption) rfl | exact room3 (by with_reducible assumption) rfl | exact Nat.le_of_ble_eq_true rfl | ((have hcL9 := cLine_is); (first | lia | omega)))
  k_with "k_enter" => (refine' code_def ?k1_0 ?k2_0 ?k3_0 ?k4_0 ?k5_0 ?kA_0 ?kF_0 ?kK_0 ?k6_0 ?k7_0 ?k8_0 ?k9_0 ?kB_0 ?_ ?c2_0 ?c3_0 ?c4_0 ?c5_0; (case kA_0 => exact rfl); (case kF_0 => exact rfl); (case kK_0 => first | exact rfl | assumption); (case k1_0 => k_asm); (case k2_0 => k_asm); (case k3_0 => k_asm); (case k4_0 => k_asm); (case k5_0 => k_asm); (case k6_0 => k_is); (case k7_0 => k_is); (case k8_0 => k_room); (case k9_0 => first | exact BindsTo.of_eq rfl | exact binds_K (by k_in) rfl (by k_is) rfl rfl rfl | fail "k_enter: no rule for these arguments"); (case c5_0 => decide); (case kB_0 => exact locs rfl); (case c2_0 => exact rfl); (case c3_0 => exact rfl); (case c4_0 => exact rfl); k_whole; intro _ _ _ _ _ _ B' _ _; (try dsimp only); (try k_lift B'); (try k_fold))
  k_with "o call type:tuple" => (k_here; (with_reducible show wpAny _ _ (call (Value.type _) [Value.ref _]) _ _ _); k_dflt (refine call_tuple_tup (News.isTup (by k_asm) (by k_extra "k_mem")) ?_))
  k_with "o call type:bytes" => (k_here; (with_reducible show wpAny _ _ (call (Value.type _) [Value.bytes _ _]) _ _ _); refine call_bytes_same ?_)
  k_with "o call type:tuple" => (k_here; (with_reducible show wpAny _ _ (call (Value.type _) [Value.ref _]) _ _ _); k_dflt (refine' tupleOf_ys ?F_1 ?N_1 ?hm_1 ?hz_1 ?_; (case F_1 => k_asm); (case N_1 => k_asm); (case hm_1 => k_extra "k_mem"); (case hz_1 => first | assumption | exact Nat.le_of_ble_eq_true rfl); k_whole); intro _ _ _ _ _; (try k_sweep))
  k_with "o call ref" => (k_here; (with_reducible show wpAny _ _ (call (Value.ref 380) _) _ _ _); k_dflt (refine' Ctr.use (take_ok _ _ _ _ _ _ _ _ _ _ ?c1_4 ?c2_4 ?c3_4 ?c4_4 ?c5_4 ?c6_4) ?k1_4 ?k2_4 ?k3_4 ?k4_4 ?k5_4 ?kK_4 ?kd_4 ?ku_4 ?_; (case k1_4 => k_asm); (case k2_4 => k_asm); (case k3_4 => k_asm); (case k4_4 => first | k_asm | exact news_swap (by k_asm)); (case k5_4 => k_asm); (case kK_4 => first | exact rfl | assumption); (case kd_4 => ktr_room); (case ku_4 => ktr_units); (case c1_4 => k_all); (case c2_4 => first | exact Nat.le_of_ble_eq_true rfl | lia | omega); (case c3_4 => first | exact Nat.le_of_ble_eq_true rfl | lia | omega); (case c4_4 => assumption); (case c5_4 => assumption); (case c6_4 => assumption); k_whole; intros; (try dsimp only); (try k_sweep); (try k_fold)))
  k_with "o call ref" => (k_here; (with_reducible show wpAny _ _ (call (Value.ref 387) _) _ _ _); k_dflt (refine' Ctr.use (one_int (fun k => k = 33024 ∨ k = 34984) _ _ _ _ _ _ _ _ _ _ _ ?c1_5 ?c2_5 ?cz1_5 ?cz2_5 ?c4_5 ?c5_5 ?c6_5 ?cP_5) ?k1_5 ?k2_5 ?k3_5 ?k4_5 ?k5_5 ?kK_5 ?kd_5 ?ku_5 ?_; (case k1_5 => k_asm); (case k2_5 => k_asm); (case k3_5 => k_asm); (case k4_5 => first | k_asm | exact news_swap (by k_asm)); (case k5_5 => k_asm); (case kK_5 => first | exact rfl | assumption); (case kd_5 => ktr_room); (case ku_5 => ktr_units); (case c1_5 => k_all); (case c2_5 => k_extra "k_mem"); (case cz1_5 => exact Nat.le_of_ble_eq_true rfl); (case cz2_5 => exact Nat.le_of_ble_eq_true rfl); (case c4_5 => assumption); (case c5_5 => assumption); (case c6_5 => assumption); (case cP_5 => (intro v hv; simp only [List.mem_cons, List.not_mem_nil, or_false] at hv; rcases hv with rfl | rfl <;> exact ⟨_, _, rfl, by (first | lia | omega)⟩)); k_whole; intros; (try dsimp only); (try k_sweep); (try k_fold)))
  k_with "o call ref" => (k_here; (with_reducible show wpAny _ _ (call (Value.ref 387) _) _ _ _); k_dflt (refine' Ctr.use (one_int (fun k => 0 ≤ k ∧ k < 4095) _ _ _ _ _ _ _ _ _ _ _ ?c1_6 ?c2_6 ?cz1_6 ?cz2_6 ?c4_6 ?c5_6 ?c6_6 ?cP_6) ?k1_6 ?k2_6 ?k3_6 ?k4_6 ?k5_6 ?kK_6 ?kd_6 ?ku_6 ?_; (case k1_6 => k_asm); (case k2_6 => k_asm); (case k3_6 => k_asm); (case k4_6 => first | k_asm | exact news_swap (by k_asm)); (case k5_6 => k_asm); (case kK_6 => first | exact rfl | assumption); (case kd_6 => ktr_room); (case ku_6 => ktr_units); (case c1_6 => k_all); (case c2_6 => k_extra "k_mem"); (case cz1_6 => exact Nat.le_of_ble_eq_true rfl); (case cz2_6 => exact Nat.le_of_ble_eq_true rfl); (case c4_6 => assumption); (case c5_6 => assumption); (case c6_6 => assumption); (case cP_6 => (intro v hv; simp only [List.mem_cons, List.not_mem_nil, or_false] at hv; rcases hv with rfl | rfl | rfl | rfl | rfl <;> exact ⟨_, _, rfl, by (first | lia | omega), by (first | lia | omega)⟩)); k_whole; intros; (try dsimp only); (try k_sweep); (try k_fold)))
  intro p loose mean mg mb dp un gd cn cs ad ccd cl outer A₀ base h₀ L m s Q E B F X N T hk hd' hu hret
  k_steps
  all_goals (
    refine' hret _ _ _ _ _ _ ?_ ?_ ?_ ?_ ?_ ?_ _ _ ?_ (row_fin (by assumption))
    any_goals (with_reducible show Fr _ _ _ _; assumption)
    any_goals assumption
    · refine ⟨?_, ?_, ?_, ?_, ?_⟩ <;> dsimp only <;> (first | lia | omega)
    · rename_i l1 _ _ _ _; exact ktn_ltOf l1.2.2.2
    · (first | lia | omega))
end
end
section
open PySem PySem.W PyProof.Rows PySem.Calls PySem.Spec
section
set_option maxRecDepth 100000 in
set_option maxHeartbeats 8000000 in
theorem with_tags_ok (w : World) (news : Led) (x : Addr) (f : FrameV) (xs : List Addr) (tu : Addr) (vs : List Value) (hf : IsFrm w news x f xs) (ht : (tu, tupObj vs) ∈ news) :
    Ctr w 317 6 40 [.ref x, .ref tu] news (fun R => ∀ x' dx' a b c d e tp, (∀ q ∈ news, @LT.lt Nat _ q.1 dx') → @LT.lt Nat _ dx' x' → R ((x', instObj 264 dx') :: (dx', frameDict w { f with tp := tp } tu a b c d e) :: news) (.ref x')) := by
  k_with_none
  w_top off
  k_with "k_mem" => first | assumption | exact List.mem_cons_self | (refine List.mem_cons_of_mem _ ?_; k_extra "k_mem") | (refine List.mem_append_right _ ?_; k_extra "k_mem") | (refine List.mem_append_left _ ?_; k_extra "k_mem")
  k_with "k_all" => assumption
  k_with "ktr_room" => ((try simp only [depth_under_make, depth_under_kw, depth_in1, depth_deeper, depth_caller]); (try dsimp only [ktrTop]); first | exact room0 (by with_reducible assumption) | exact room1 (by with_reducible assumption) rfl | exact room2 (by with_reducible assumption) rfl | exact room3 (by with_reducible assumption) rfl | exact Nat.le_of_ble_eq_true rfl | lia | omega)
  k_with "k_room" => ktr_room
  k_with "ktr_units" => ((try simp only [units_in1, units_deeper, Around.mark_units, units_caller]); (try dsimp only [ktrTop]); first | exact room0 (by with_reducible assumption) | exact room1 (by with_reducible assumption) rfl | exact room2 (by with_reducible assumption) rfl | exact room3 (by with_reducible assumption) rfl | exact Nat.le_of_ble_eq_true rfl | ((have hcL9 := cLine_is); (first | lia | omega)))
  k_with "k_enter" => (refine' code_def ?k1_0 ?k2_0 ?k3_0 ?k4_0 ?k5_0 ?kA_0 ?kF_0 ?kK_0 ?k6_0 ?k7_0 ?k8_0 ?k9_0 ?kB_0 ?_ ?c2_0 ?c3_0 ?c4_0 ?c5_0; (case kA_0 => exact rfl); (case kF_0 => exact rfl); (case kK_0 => first | exact rfl | assumption); (case k1_0 => k_asm); (case k2_0 => k_asm); (case k3_0 => k_asm); (case k4_0 => k_asm); (case k5_0 => k_asm); (case k6_0 => k_is); (case k7_0 => k_is); (case k8_0 => k_room); (case k9_0 => first | exact BindsTo.of_eq rfl | exact binds_K (by k_in) rfl (by k_is) rfl rfl rfl | fail "k_enter: no rule for these arguments"); (case c5_0 => decide); (case kB_0 => exact locs rfl); (case c2_0 => exact rfl); (case c3_0 => exact rfl); (case c4_0 => exact rfl); k_whole; intro _ _ _ _ _ _ B' _ _; (try dsimp only); (try k_lift B'); (try k_fold))
  k_with "o call type:tuple" => (k_here; (with_reducible show wpAny _ _ (call (Value.type _) [Value.ref _]) _ _ _); k_dflt (refine call_tuple_tup (News.isTup (by k_asm) (by k_extra "k_mem")) ?_))
  k_with "o call type:bytes" => (k_here; (with_reducible show wpAny _ _ (call (Value.type _) [Value.bytes _ _]) _ _ _); refine call_bytes_same ?_)
  k_with "o call type:tuple" => (k_here; (with_reducible show wpAny _ _ (call (Value.type _) [Value.ref _]) _ _ _); k_dflt (refine' tupleOf_ys ?F_1 ?N_1 ?hm_1 ?hz_1 ?_; (case F_1 => k_asm); (case N_1 => k_asm); (case hm_1 => k_extra "k_mem"); (case hz_1 => first | assumption | exact Nat.le_of_ble_eq_true rfl); k_whole); intro _ _ _ _ _; (try k_sweep))
  k_with "o call ref" => (k_here; (with_reducible show wpAny _ _ (call (Value.ref 264) _) _ _ _); k_dflt (refine' Ctr.use (frame_new _ _ ⟨_, _, _, _, _, _, _, _⟩ _ _ ?kc_7) ?k1_7 ?k2_7 ?k3_7 ?k4_7 ?k5_7 ?kK_7 ?kd_7 ?ku_7 ?_; (case k1_7 => k_asm); (case k2_7 => k_asm); (case k3_7 => k_asm); (case k4_7 => k_asm); (case k5_7 => k_asm); (case kK_7 => first | exact rfl | assumption); (case kd_7 => ktr_room); (case ku_7 => ktr_units); (case kc_7 => assumption); k_whole; intros; (try dsimp only); (try k_sweep); (try k_fold)))
  obtain ⟨dx, tu0, a, b, c, d, e, hx, hdx, htu⟩ := hf
  intro p loose mean mg mb dp un gd cn cs ad ccd cl outer A₀ base h₀ L m s Q E B F X N T hk hd' hu hret
  k_steps
  all_goals exact hret _ _ _ _ _ _ _ _ (by assumption) (by assumption) _ _ (by assumption) (by assumption)
end
end
section
open PySem PySem.W PyProof.Rows PySem.Calls PySem.Spec
theorem add_ledT {prog : Program} {w : World} {A : Around} {E : Value → Shared → Prop} {s : Shared} {h₀ : Heap} {L : Addr} {m : Str → Option Value} {news : Led} {t b : Addr} {vs ws : List Value} {Q : Value → Shared → Prop} (F : Fr h₀ L s.heap m) (N : News h₀ L s.heap news)
    (ht : (t, tupObj vs) ∈ news) (hb : (b, tupObj ws) ∈ news) (hv : vs ≠ []) (hsz : vs.length + ws.length ≤ 5000)
    (h : ∀ D h' news', Fr h₀ L h' m → News h₀ L h' news' → (news' = news ∧ ws = [] ∧ D = t ∨ news' = (D, tupObj (vs ++ ws)) :: news ∧ ∀ q ∈ news, @LT.lt Nat _ q.1 D) → Q (.ref D) { s with heap := h' }) :
    wpAny (model prog w) A (binaryOp .Add (.ref t) (.ref b)) Q E s :=
  add_tuples F N (News.isTup N ht) (News.isTup N hb) (fun e => absurd e hv) (fun _ e => h t s.heap news F N (.inl ⟨rfl, e, rfl⟩)) (fun _ _ h' F' N' => h _ h' _ F' N' (.inr ⟨rfl, fun q hq => Heap.lt_size (N q hq).1⟩)) (by rw [sizeLine_eq]; (first | lia | omega))
theorem from_ledT {prog : Program} {w : World} {A : Around} {E : Value → Shared → Prop} {s : Shared} {h₀ : Heap} {L : Addr} {m : Str → Option Value} {news : Led} {value slice : Expr} {t : Addr} {vs : List Value} {a : Nat} {u : Tok} {Q : Value → Shared → Prop}
    (F : Fr h₀ L s.heap m) (N : News h₀ L s.heap news) (ht : (t, tupObj vs) ∈ news) (h1 : 1 ≤ a) (ha : a ≤ vs.length) (hz : vs.length ≤ 5000)
    (h : ∀ D h', Fr h₀ L h' m → News h₀ L h' ((D, tupObj (vs.drop a)) :: news) → (∀ q ∈ news, @LT.lt Nat _ q.1 D) → Q (.ref D) { s with heap := h' })
    (hs : subscripted slice false (.ref t) (.ref s.heap.objs.size) = operate [.ref s.heap.objs.size, .ref t] (getItem (.ref t) (.ref s.heap.objs.size)) := by with_unfolding_all rfl)
    (hg : ∀ r, letTemporaryGo value (.ref t) r = pure () := by intro _; with_unfolding_all rfl) :
    wpAny (model prog w) A (subscriptTail value slice (.ref t) (.ref s.heap.objs.size)) Q E { s with heap := s.heap.push { cls := .type "slice", data := .fields #[.int a u, .none, .none] } } :=
  slice_tuple_from F N (News.isTup N ht) h1 (by simpa using ha) (fun h' F' N' => h _ h' F' N' fun q hq => Nat.lt_succ_of_lt (Heap.lt_size (N q hq).1)) hs hg (by rw [sizeLine_eq]; simp; (first | lia | omega))
theorem IsFrm.tup {w : World} {news : Led} {x : Addr} {f : FrameV} {xs : List Addr} (h : IsFrm w news x f xs) : ∃ tu, (tu, tupObj (xs.map Value.ref)) ∈ news := let ⟨_, tu, _, _, _, _, _, _, _, h⟩ := h; ⟨tu, h⟩
theorem item_ledT {prog : Program} {w : World} {A : Around} {E : Value → Shared → Prop} {s : Shared} {value slice : Expr} {t : Addr} {l : List Value} {k : Int} {u : Tok} {j : Nat} {x : Value} {Q : Value → Shared → Prop} (ht : IsTup s.heap t l.toArray)
    (hj : seqIndex? k l.length = some j) (hx : l[j]? = some x) (hlo : -(2 ^ 63) ≤ k) (hhi : k < 2 ^ 63) (h : Q x s)
    (hs : subscripted slice false (.ref t) (.int k u) = operate [.ref t, .int k u] (getItem (.ref t) (.int k u)) := by with_unfolding_all rfl) :
    wpAny (model prog w) A (subscriptTail value slice (.ref t) (.int k u)) Q E s := item_tupleT ht hlo hhi hj hx h hs
theorem item_ledT0 {prog : Program} {w : World} {A : Around} {E : Value → Shared → Prop} {s : Shared} {value slice : Expr} {t : Addr} {l : List Value} {u : Tok} {x : Value} {Q : Value → Shared → Prop} (ht : IsTup s.heap t (x :: l).toArray)
    (h : Q x s)
    (hs : subscripted slice false (.ref t) (.int 0 u) = operate [.ref t, .int 0 u] (getItem (.ref t) (.int 0 u)) := by with_unfolding_all rfl) :
    wpAny (model prog w) A (subscriptTail value slice (.ref t) (.int 0 u)) Q E s := item_tupleT ht (by decide) (by decide) (j := 0) (by simp [seqIndex?]) rfl h hs
theorem add_ledT1 {prog : Program} {w : World} {A : Around} {E : Value → Shared → Prop} {s : Shared} {h₀ : Heap} {L : Addr} {m : Str → Option Value} {news : Led} {t b : Addr} {v u : Value} {vs ws : List Value} {Q : Value → Shared → Prop} (F : Fr h₀ L s.heap m) (N : News h₀ L s.heap news)
    (ht : (t, tupObj (v :: vs)) ∈ news) (hb : (b, tupObj (u :: ws)) ∈ news) (hsz : vs.length + ws.length ≤ 5000)
    (h : ∀ D h', Fr h₀ L h' m → News h₀ L h' ((D, tupObj (v :: (vs ++ u :: ws))) :: news) → (∀ q ∈ news, @LT.lt Nat _ q.1 D) → Q (.ref D) { s with heap := h' }) :
    wpAny (model prog w) A (binaryOp .Add (.ref t) (.ref b)) Q E s :=
  add_tuples F N (News.isTup N ht) (News.isTup N hb) (fun e => by cases e) (fun _ e => by cases e) (fun _ _ h' F' N' => h _ h' F' N' fun q hq => Heap.lt_size (N q hq).1) (by rw [sizeLine_eq]; simp; (first | lia | omega))
theorem add_ledT0 {prog : Program} {w : World} {A : Around} {E : Value → Shared → Prop} {s : Shared} {h₀ : Heap} {L : Addr} {m : Str → Option Value} {news : Led} {t b : Addr} {v : Value} {vs : List Value} {Q : Value → Shared → Prop} (F : Fr h₀ L s.heap m) (N : News h₀ L s.heap news)
    (ht : (t, tupObj (v :: vs)) ∈ news) (hb : (b, tupObj ([] : List Value)) ∈ news) (hsz : vs.length ≤ 5000)
    (h : Q (.ref t) s) :
    wpAny (model prog w) A (binaryOp .Add (.ref t) (.ref b)) Q E s :=
  add_tuples F N (News.isTup N ht) (News.isTup N hb) (fun e => by cases e) (fun _ _ => h) (fun _ e => absurd rfl e) (by rw [sizeLine_eq]; simp; (first | lia | omega))
theorem from_ledT1 {prog : Program} {w : World} {A : Around} {E : Value → Shared → Prop} {s : Shared} {h₀ : Heap} {L : Addr} {m : Str → Option Value} {news : Led} {value slice : Expr} {t : Addr} {v : Value} {vs : List Value} {u : Tok} {Q : Value → Shared → Prop}
    (F : Fr h₀ L s.heap m) (N : News h₀ L s.heap news) (ht : (t, tupObj (v :: vs)) ∈ news) (hz : vs.length ≤ 4000)
    (h : ∀ D h', Fr h₀ L h' m → News h₀ L h' ((D, tupObj vs) :: news) → (∀ q ∈ news, @LT.lt Nat _ q.1 D) → Q (.ref D) { s with heap := h' })
    (hs : subscripted slice false (.ref t) (.ref s.heap.objs.size) = operate [.ref s.heap.objs.size, .ref t] (getItem (.ref t) (.ref s.heap.objs.size)) := by with_unfolding_all rfl)
    (hg : ∀ r, letTemporaryGo value (.ref t) r = pure () := by intro _; with_unfolding_all rfl) :
    wpAny (model prog w) A (subscriptTail value slice (.ref t) (.ref s.heap.objs.size)) Q E { s with heap := s.heap.push { cls := .type "slice", data := .fields #[.int (1 : Nat) u, .none, .none] } } :=
  from_ledT (a := 1) F N ht (Nat.le_refl _) (by simp) (by simp; (first | lia | omega)) h hs hg
theorem abv_nil {news : Led} : Abv news [] := fun _ _ _ h => nomatch h
theorem abv_all {news tl : Led} {a : Addr} {o : Obj} (h : ∀ q ∈ tl ++ news, @LT.lt Nat _ q.1 a) (k : Abv news tl) : Abv news ((a, o) :: tl) := fun q hq p hp => by
  rcases List.mem_cons.mp hp with rfl | hp
  · exact h q (List.mem_append_right _ hq)
  · exact k q hq p hp
theorem abv_allA {news tl : Led} {a : Addr} {o : Obj} (h : AllLt a (tl ++ news)) (k : Abv news tl) : Abv news ((a, o) :: tl) := abv_all (ktn_ltOf h) k
theorem abv_one {news : Led} {a : Addr} {o : Obj} (h : ∀ q ∈ news, @LT.lt Nat _ q.1 a) : Abv news [(a, o)] := abv_all (tl := []) h abv_nil
theorem abv_oneA {news : Led} {a : Addr} {o : Obj} (h : AllLt a news) : Abv news [(a, o)] := abv_one (ktn_ltOf h)
theorem abv_next {news tl : Led} {a b : Addr} {o u : Obj} (h : @LT.lt Nat _ b a) (k : Abv news ((b, u) :: tl)) : Abv news ((a, o) :: (b, u) :: tl) := fun q hq p hp => by
  rcases List.mem_cons.mp hp with rfl | hp
  · exact Nat.lt_trans (k q hq _ (.head _)) h
  · exact k q hq p hp
theorem abv_app {news t1 t2 : Led} (k : Abv news t1) (l : Abv (t1 ++ news) t2) : Abv news (t2 ++ t1) := fun q hq p hp => by
  rcases List.mem_append.mp hp with hp | hp
  · exact l q (List.mem_append_right _ hq) p hp
  · exact k q hq p hp
theorem Abv.off {news tl : Led} (k : Abv news tl) {a : Addr} {o : Obj} (h : (a, o) ∈ news) : ∀ p ∈ tl, p.1 ≠ a := fun p hp e => by
  have := k _ h p hp
  rw [e] at this
  exact Nat.lt_irrefl _ this
theorem IsFrm.of {w : World} {news : Led} {x dx tu : Addr} {f : FrameV} {xs : List Addr} {a b c d e : Tok} (h1 : (x, instObj 264 dx) ∈ news) (h2 : (dx, frameDict w f tu a b c d e) ∈ news) (h3 : (tu, tupObj (xs.map .ref)) ∈ news) : IsFrm w news x f xs := ⟨_, _, _, _, _, _, _, h1, h2, h3⟩
theorem IsTag.of {w : World} {news : Led} {x dx : Addr} {t : TagV} {a b c e : Tok} (h1 : (x, instObj 230 dx) ∈ news) (h2 : (dx, tagDict w t a b c e) ∈ news) : IsTag w news x t := ⟨_, _, _, _, _, h1, h2⟩
theorem abv_allS {news tl l : Led} {a : Addr} {o : Obj} (h : ∀ q ∈ l, @LT.lt Nat _ q.1 a) (e : tl ++ news = l) (k : Abv news tl) : Abv news ((a, o) :: tl) := abv_all (by rw [e]; exact h) k
theorem add_ledTm {prog : Program} {w : World} {A : Around} {E : Value → Shared → Prop} {s : Shared} {h₀ : Heap} {L : Addr} {m : Str → Option Value} {news : Led} {t b : Addr} {v : Value} {vs ws : List Value} {Q : Value → Shared → Prop} (F : Fr h₀ L s.heap m) (N : News h₀ L s.heap news)
    (ht : (t, tupObj (v :: vs)) ∈ news) (hb : (b, tupObj ws) ∈ news) (hsz : vs.length + ws.length ≤ 5000)
    (h : ∀ D h' nw, Fr h₀ L h' m → News h₀ L h' (nw ++ news) → Abv news nw → (D, tupObj (v :: (vs ++ ws))) ∈ nw ++ news → Q (.ref D) { s with heap := h' }) :
    wpAny (model prog w) A (binaryOp .Add (.ref t) (.ref b)) Q E s :=
  add_tuples F N (News.isTup N ht) (News.isTup N hb) (fun e => by cases e) (fun _ e => h t s.heap [] F N abv_nil (by rw [e, List.append_nil]; exact ht))
    (fun _ _ h' F' N' => h _ h' [_] F' N' (abv_one fun q hq => Heap.lt_size (N q hq).1) (.head _)) (by rw [sizeLine_eq]; simp; (first | lia | omega))
theorem RowsAt.get {a : Led} : ∀ {xs : List Addr} {ts : List TagV} {i : Nat} {x : Addr}, RowsAt a xs ts → xs[i]? = some x → ∃ t, ts[i]? = some t ∧ (x, rowObj t) ∈ a
  | [], [], _, _, _, e => by simp at e
  | _ :: _, t :: _, 0, _, k, e => by simp at e; subst e; exact ⟨t, rfl, k.1⟩
  | _ :: _, _ :: _, i + 1, _, k, e => by simpa using RowsAt.get k.2 (by simpa using e)
  | [], _ :: _, _, _, k, _ => k.elim
  | _ :: _, [], _, _, k, _ => k.elim
theorem TagsAt.snoc {w : World} {a : Led} {y : Addr} {t : TagV} (h : IsTag w a y t) : ∀ {xs : List Addr} {ts : List TagV}, TagsAt w a xs ts → TagsAt w a (xs ++ [y]) (ts ++ [t])
  | [], [], _ => ⟨h, trivial⟩
  | _ :: _, _ :: _, k => ⟨k.1, TagsAt.snoc h k.2⟩
  | [], _ :: _, k => k.elim
  | _ :: _, [], k => k.elim
theorem compEnd_app {h₀ : Heap} {L : Addr} {m : Str → Option Value} {I C D : Addr} {oI oC oD : Obj} {s₁ : Shared} {S : Led → Prop} {rest : Value → Led → Prop} {v : Value} {h' : Heap} {tk : Nat} {news : Led} (nw : Led)
    (F : Fr h₀ L h' m) (N : News h₀ L h' (nw ++ (I, oI) :: (C, oC) :: (D, oD) :: news)) (hy : Abv ((I, oI) :: (C, oC) :: (D, oD) :: news) nw) (off : LCg.Off3 I C D news) (hS : S (nw ++ news)) (r : rest v (nw ++ news)) :
    LCg.CompEnd h₀ L m s₁ I oI C oC D oD S rest v { s₁ with heap := h', toks := tk } :=
  LCg.CompEnd.intro F N (nw ++ news) (fun q hq => by
    simp only [List.mem_cons, List.mem_append] at hq ⊢
    rcases hq with h | h | h | h | h <;> simp only [h, true_or, or_true]) (LCg.Off3.of fun p hp => by
    rcases List.mem_append.mp hp with hp | hp
    · exact ⟨Nat.ne_of_gt (hy _ (.head _) p hp), Nat.ne_of_gt (hy _ (.tail _ (.head _)) p hp), Nat.ne_of_gt (hy _ (.tail _ (.tail _ (.head _))) p hp)⟩
    · exact LCg.Off3.mem off p hp) hS r
theorem Abv.sub {a b tl : Led} (k : Abv b tl) (h : ∀ q ∈ a, q ∈ b) : Abv a tl := fun q hq p hp => k q (h q hq) p hp
theorem take_snoc {α : Type} {ts : List α} {i : Nat} {t : α} (h : ts[i]? = some t) : ts.take (i + 1) = ts.take i ++ [t] := by rw [List.take_add_one, h]; rfl
theorem Abv.appA {news t1 t2 : Led} (l : Abv (t1 ++ news) t2) (k : Abv news t1) : Abv news (t2 ++ t1) := abv_app k l
theorem news_drop4 {h₀ h : Heap} {L : Addr} {a b c d : Addr × Obj} {l : Led} (N : News h₀ L h (a :: b :: c :: d :: l)) : News h₀ L h (a :: b :: c :: l) := News.perm N fun q hq => by
  simp only [List.mem_cons] at hq ⊢
  rcases hq with h | h | h | h <;> simp only [h, true_or, or_true]
theorem allNe_of {news : Led} {a b : Addr} (h : ∀ p ∈ news, @LT.lt Nat _ p.1 a) (hab : @LE.le Nat _ a b) : ∀ p ∈ news, p.1 ≠ b := fun p hp e => by
  have := h p hp
  rw [e] at this
  exact Nat.lt_irrefl _ (Nat.lt_of_lt_of_le this hab)
noncomputable def Stop (P : Prop) : Prop := P
theorem stop_of {P : Prop} (h : Stop P) : P := h
theorem upd_app {D : Addr} {o o' : Obj} {post : Led} : ∀ {pre : Led}, (∀ p ∈ pre, p.1 ≠ D) → (∀ p ∈ post, p.1 ≠ D) → Upd D o o' (pre ++ (D, o) :: post) (pre ++ (D, o') :: post)
  | [], _, h2 => .head h2
  | _ :: _, h1, h2 => .tail (h1 _ (.head _)) (upd_app (fun p hp => h1 p (.tail _ hp)) h2)
theorem abv_con {news tl : Led} {a : Addr} {o : Obj} (h : ∀ q ∈ news, @LT.lt Nat _ q.1 a) (k : Abv news tl) : Abv news ((a, o) :: tl) := fun q hq p hp => by
  rcases List.mem_cons.mp hp with rfl | hp
  · exact h q hq
  · exact k q hq p hp
theorem IsTag.drop {w : World} {pre post : Led} {D x : Addr} {arr : Array Value} {c : Nat} {t : TagV} (k : IsTag w (pre ++ (D, W.listOf arr c) :: post) x t) : IsTag w (pre ++ post) x t := by
  obtain ⟨dx, a, b, e, f, h1, h2⟩ := k
  have go : ∀ {y : Addr} {o : Obj}, o.cls ≠ .type "list" → (y, o) ∈ pre ++ (D, W.listOf arr c) :: post → (y, o) ∈ pre ++ post := by
    intro y o ho hm
    rcases List.mem_append.mp hm with h | h
    · exact List.mem_append_left _ h
    · rcases List.mem_cons.mp h with h | h
      · cases h; exact absurd rfl ho
      · exact List.mem_append_right _ h
  exact ⟨dx, a, b, e, f, go (by simp) h1, go (by simp) h2⟩
theorem allNe_ofA {news : Led} {a b : Addr} (h : AllLt a news) (hab : @LE.le Nat _ a b) : ∀ p ∈ news, p.1 ≠ b := allNe_of (ktn_ltOf h) hab
theorem allNe_ofA1 {P : Prop} {news : Led} {a b : Addr} (h : P ∧ AllLt a news) (hab : @LE.le Nat _ a b) : ∀ p ∈ news, p.1 ≠ b := allNe_of (ktn_ltOf h.2) hab
theorem allNe_ofA2 {P P2 : Prop} {news : Led} {a b : Addr} (h : P ∧ P2 ∧ AllLt a news) (hab : @LE.le Nat _ a b) : ∀ p ∈ news, p.1 ≠ b := allNe_of (ktn_ltOf h.2.2) hab
end
section
open PySem PySem.W PyProof.Rows PySem.Calls PySem.Spec
theorem bitAnd_m12 (x : Int) : Builtin.bitAnd x 4095 = x % 4096 := by
  by_cases hx : 0 ≤ x
  · rw [bitAnd_pp hx (by decide)]
    have h : x.toNat &&& (4095 : Int).toNat = x.toNat % 4096 := Nat.and_two_pow_sub_one_eq_mod x.toNat 12
    rw [h]
    lia  
  · rw [bitAnd_np hx (by decide)]
    have h : (4095 : Int).toNat &&& (Builtin.bitNot x).toNat = (Builtin.bitNot x).toNat % 4096 := by
      rw [Nat.and_comm]
      exact Nat.and_two_pow_sub_one_eq_mod (Builtin.bitNot x).toNat 12
    rw [h]
    unfold Builtin.bitNot
    lia
theorem nat_and_shift (a b k : Nat) (hb : b < 2 ^ k) : (a * 2 ^ k) &&& b = 0 := by
  apply Nat.eq_of_testBit_eq
  intro i
  rw [Nat.testBit_and, Nat.zero_testBit, Nat.mul_comm, Nat.testBit_two_pow_mul]
  by_cases h : k ≤ i
  · have : b.testBit i = false := Nat.testBit_lt_two_pow (Nat.lt_of_lt_of_le hb (Nat.pow_le_pow_right (by decide) h))
    simp [this]
  · simp [h]
theorem bitOr_add {x y : Int} (k : Nat) (hx : 0 ≤ x) (hy : 0 ≤ y) (hk : y < ((2 ^ k : Nat) : Int)) : Builtin.bitOr (x * ((2 ^ k : Nat) : Int)) y = x * ((2 ^ k : Nat) : Int) + y := by
  have hm : 0 ≤ x * ((2 ^ k : Nat) : Int) := Int.mul_nonneg hx (Int.natCast_nonneg _)
  rw [bitOr_and, bitAnd_pp hm hy]
  have e : (x * ((2 ^ k : Nat) : Int)).toNat = x.toNat * 2 ^ k := by
    rw [Int.toNat_mul hx (Int.natCast_nonneg _), Int.toNat_natCast]
  rw [e, nat_and_shift _ _ _ (by lia  )]
  simp
noncomputable def dI (d : Bool) : Int := if d then 1 else 0
noncomputable def tagW (t : TagV) : Int := t.p * 8192 + dI t.d * 4096 + t.v
theorem dI_range (d : Bool) : 0 ≤ dI d ∧ dI d ≤ 1 := by cases d <;> decide
theorem tag_bits (p v : Int) (d : Bool) (h0 : 0 ≤ p) (v0 : 0 ≤ v) (v1 : v < 4095) :
    Builtin.bitOr (Builtin.bitOr (p * 2 ^ (13 : Int).toNat) (dI d * 2 ^ (12 : Int).toNat)) v = p * 8192 + dI d * 4096 + v := by
  have hd := dI_range d
  have e1 : Builtin.bitOr (p * 2 ^ (13 : Int).toNat) (dI d * 2 ^ (12 : Int).toNat) = p * 8192 + dI d * 4096 := by
    have := bitOr_add (x := p) (y := dI d * 4096) 13 h0 (by lia  ) (by have : ((2 ^ 13 : Nat) : Int) = 8192 := by decide
                                                                       lia  )
    exact this
  rw [e1]
  have e2 : p * 8192 + dI d * 4096 = (p * 2 + dI d) * 4096 := by lia  
  rw [e2]
  exact bitOr_add (x := p * 2 + dI d) (y := v) 12 (by lia  ) v0 (by have : ((2 ^ 12 : Nat) : Int) = 4096 := by decide
                                                                    lia  )
theorem tag_bits_ite (p v : Int) (d : Bool) (h0 : 0 ≤ p) (v0 : 0 ≤ v) (v1 : v < 4095) :
    Builtin.bitOr (Builtin.bitOr (p * 2 ^ (13 : Int).toNat) ((if d = true then 1 else 0) * 2 ^ (12 : Int).toNat)) v = p * 8192 + dI d * 4096 + v := tag_bits p v d h0 v0 v1
theorem tagW_range {t : TagV} (h : RowOk t) : 0 ≤ tagW t ∧ tagW t < 65536 := by
  obtain ⟨_, h1, h2, h3, h4⟩ := h
  have hd := dI_range t.d
  unfold tagW
  lia
/-- the octets of a number of two: the upper one, the lower one -/
theorem putL2 {n : Int} (h0 : 0 ≤ n) (h1 : n < 65536) : putL n 2 2 = [n / 256, n % 256] := by
  have e : putL n 2 2 = [putB n 2 0, putB n 2 1] := rfl
  rw [e]
  unfold putB
  rw [bitAnd_m8, bitAnd_m8]
  have a : (8 * ((2 : Int) - 1 + ((0 : Nat) : Int) * -1)).toNat = 8 := by decide
  have b : (8 * ((2 : Int) - 1 + ((1 : Nat) : Int) * -1)).toNat = 0 := by decide
  rw [a, b]
  have c : n.fdiv (2 ^ 8) = n / 256 := by rw [Int.fdiv_eq_ediv_of_nonneg _ (by decide)]; rfl
  have d : n.fdiv (2 ^ 0) = n := by rw [Int.fdiv_eq_ediv_of_nonneg _ (by decide)]; simp
  rw [c, d]
  congr 1
  lia
noncomputable def tagL (t : TagV) : List Int := putL t.k 2 2 ++ putL (tagW t) 2 2
theorem tagL_length (t : TagV) : (tagL t).length = 4 := by simp [tagL, putL_length]
theorem tagL_eq {t : TagV} (h : RowOk t) : tagL t = [t.k / 256, t.k % 256, tagW t / 256, tagW t % 256] := by
  obtain ⟨h1, h2⟩ := tagW_range h
  have hk : 0 ≤ t.k ∧ t.k < 65536 := by have := h.1; lia  
  unfold tagL
  rw [putL2 hk.1 hk.2, putL2 h1 h2]
  rfl
noncomputable def gstep (a k : Int) : Int := Builtin.bitOr (a * 2 ^ (8 : Int).toNat) k
theorem gstep_eq {a k : Int} (h0 : 0 ≤ a) (k0 : 0 ≤ k) (k1 : k < 256) : gstep a k = a * 256 + k := by
  unfold gstep
  exact bitOr_add (x := a) (y := k) 8 h0 k0 (by have : ((2 ^ 8 : Nat) : Int) = 256 := by decide
                                                lia  )
noncomputable def getL (ks : List Int) (at_ many : Nat) : Int := ((ks.drop at_).take many).foldl gstep 0
theorem fold2 {a b : Int} (a0 : 0 ≤ a) (a1 : a < 256) (b0 : 0 ≤ b) (b1 : b < 256) : [a, b].foldl gstep 0 = a * 256 + b := by
  simp only [List.foldl_cons, List.foldl_nil]
  rw [gstep_eq (Int.le_refl _) a0 a1, gstep_eq (by lia  ) b0 b1]
  lia
theorem gfold_lt : ∀ (l : List Int) (a : Int), (∀ k ∈ l, 0 ≤ k ∧ k < 256) → 0 ≤ a → 0 ≤ l.foldl gstep a ∧ l.foldl gstep a < (a + 1) * ((256 ^ l.length : Nat) : Int)
  | [], a, _, h => by simp only [List.foldl_nil, List.length_nil, Nat.pow_zero]; lia  
  | k :: r, a, hk, h => by
    have h1 := hk k (.head _)
    have e := gstep_eq h h1.1 h1.2
    have ih := gfold_lt r (gstep a k) (fun x hx => hk x (.tail _ hx)) (by lia  )
    rw [List.foldl_cons]
    refine ⟨ih.1, Int.lt_of_lt_of_le ih.2 ?_⟩
    rw [e, List.length_cons, Nat.pow_succ, Int.natCast_mul, Int.mul_comm ((256 ^ r.length : Nat) : Int), ← Int.mul_assoc]
    refine Int.mul_le_mul_of_nonneg_right ?_ (Int.natCast_nonneg _)
    have : ((256 : Nat) : Int) = 256 := rfl
    lia
theorem fold_bits {b : Array UInt8} {l : List Int} {i : Nat} {k a : Int} (hb : KBw.bInts b = l) (hi : l[i]? = some k) (hl : l.length ≤ 6) (ha : a = (l.take i).foldl gstep 0) : 0 ≤ a ∧ a.natAbs < 2 ^ 64 := by
  have hil : i < l.length := by
    rcases Nat.lt_or_ge i l.length with h | h
    · exact h
    · rw [List.getElem?_eq_none h] at hi; cases hi
  have := gfold_lt (l.take i) 0 (fun x hx => by
    have : x ∈ KBw.bInts b := by rw [hb]; exact List.mem_of_mem_take hx
    exact KBw.ints_in this) (Int.le_refl _)
  rw [← ha, List.length_take, Nat.min_eq_left (by lia  )] at this
  have h2 : (256 ^ i : Nat) ≤ 256 ^ 5 := Nat.pow_le_pow_right (by decide) (by lia  )
  have h3 : (256 ^ 5 : Nat) = 1099511627776 := by decide
  lia
noncomputable def SameTag (t u : TagV) : Prop := u.k = t.k ∧ u.p = t.p ∧ u.d = t.d ∧ u.v = t.v
theorem tagW_p {t : TagV} (h : RowOk t) : (tagW t).fdiv (2 ^ (13 : Int).toNat) = t.p := by
  obtain ⟨_, h1, h2, h3, h4⟩ := h
  have hd := dI_range t.d
  have e : (2 : Int) ^ (13 : Int).toNat = 8192 := by decide
  rw [e, Int.fdiv_eq_ediv_of_nonneg _ (by decide)]
  unfold tagW
  lia
theorem tagW_d {t : TagV} (h : RowOk t) : Builtin.bitAnd ((tagW t).fdiv (2 ^ (12 : Int).toNat)) 1 = dI t.d := by
  obtain ⟨_, h1, h2, h3, h4⟩ := h
  have hd := dI_range t.d
  have e : (2 : Int) ^ (12 : Int).toNat = 4096 := by decide
  rw [bitAnd_m1, e, Int.fdiv_eq_ediv_of_nonneg _ (by decide)]
  unfold tagW
  lia
theorem tagW_v {t : TagV} (h : RowOk t) : Builtin.bitAnd (tagW t) 4095 = t.v := by
  obtain ⟨_, h1, h2, h3, h4⟩ := h
  have hd := dI_range t.d
  rw [bitAnd_m12]
  unfold tagW
  lia
theorem dI_eq (d : Bool) : decide (dI d = 1) = d := by cases d <;> rfl
theorem dI_beq (d : Bool) : (dI d == 1) = d := by cases d <;> rfl
noncomputable def SameTags : List TagV → List TagV → Prop
  | [], [] => True
  | t :: ts, u :: us => SameTag t u ∧ SameTags ts us
  | _, _ => False
theorem SameTags.snoc {t u : TagV} (h : SameTag t u) : ∀ {ts us : List TagV}, SameTags ts us → SameTags (ts ++ [t]) (us ++ [u])
  | [], [], _ => ⟨h, trivial⟩
  | _ :: _, _ :: _, k => ⟨k.1, SameTags.snoc h k.2⟩
  | [], _ :: _, k => k.elim
  | _ :: _, [], k => k.elim
theorem SameTags.length : ∀ {ts us : List TagV}, SameTags ts us → ts.length = us.length
  | [], [], _ => rfl
  | _ :: _, _ :: _, k => by simp [SameTags.length k.2]
  | [], _ :: _, k => k.elim
  | _ :: _, [], k => k.elim
end
section
open PySem PySem.W PyProof.Rows PySem.Calls PySem.Spec
noncomputable abbrev fv (tt ts tk tp : Tok) (pb : Array UInt8) : FrameV := ⟨7, tt, 9, ts, 2054, tk, pb, tp⟩
noncomputable def flatL (ts : List TagV) : List Int := (ts.map tagL).flatten
noncomputable def bodyL (ts : List TagV) (ps : List Int) : List Int := (putL 7 6 6 ++ putL 9 6 6 ++ (ts.map tagL).flatten) ++ putL 2054 2 2 ++ ps ++ []
noncomputable def frameL (ts : List TagV) (ps : List Int) : List Int := bodyL ts ps ++ sumL (bodyL ts ps)
theorem sumL_length (ks : List Int) : (sumL ks).length = 4 := by unfold sumL; rw [List.length_map]; rfl
theorem flat_length : ∀ ts : List TagV, ((ts.map tagL).flatten).length = 4 * ts.length
  | [] => rfl
  | t :: r => by rw [List.map_cons, List.flatten_cons, List.length_append, tagL_length, flat_length r, List.length_cons]; (first | lia | omega)
theorem flat_drop : ∀ (ts : List TagV) (i : Nat), ((ts.map tagL).flatten).drop (4 * i) = ((ts.drop i).map tagL).flatten
  | ts, 0 => by simp
  | [], i + 1 => by simp
  | t :: r, i + 1 => by
    rw [List.map_cons, List.flatten_cons, List.drop_succ_cons, show 4 * (i + 1) = (tagL t).length + 4 * i by rw [tagL_length]; (first | lia | omega), List.drop_append, List.drop_of_length_le (by (first | lia | omega))]
    simpa using flat_drop r i
theorem bodyL_length (ts : List TagV) (ps : List Int) : (bodyL ts ps).length = 14 + 4 * ts.length + ps.length := by
  unfold bodyL
  simp only [List.length_append, putL_length, flat_length, List.length_nil]
  (first | lia | omega)
theorem frameL_length (ts : List TagV) (ps : List Int) : (frameL ts ps).length = 18 + 4 * ts.length + ps.length := by
  unfold frameL
  rw [List.length_append, bodyL_length, sumL_length]
  (first | lia | omega)
theorem frameL_take (ts : List TagV) (ps : List Int) : (frameL ts ps).take (bodyL ts ps).length = bodyL ts ps := by
  unfold frameL
  exact List.take_left' rfl
theorem frameL_drop (ts : List TagV) (ps : List Int) : (frameL ts ps).drop (bodyL ts ps).length = sumL (bodyL ts ps) := by
  unfold frameL
  exact List.drop_left' rfl
theorem bodyL_drop (ts : List TagV) (ps : List Int) (i : Nat) (hi : i ≤ ts.length) : (bodyL ts ps).drop (12 + 4 * i) = ((ts.drop i).map tagL).flatten ++ (putL 2054 2 2 ++ ps) := by
  unfold bodyL
  have e : (putL 7 6 6 ++ putL 9 6 6).length = 12 := by simp [putL_length]
  rw [List.append_nil, List.append_assoc, List.append_assoc, show 12 + 4 * i = (putL 7 6 6 ++ putL 9 6 6).length + 4 * i by rw [e], List.drop_append, List.drop_of_length_le (by (first | lia | omega)), List.nil_append, Nat.add_sub_cancel_left,
    List.drop_append, flat_drop, flat_length, Nat.sub_eq_zero_of_le (by (first | lia | omega)), List.drop_zero]
theorem get2 {a b : Int} {r : List Int} {ks : List Int} {n : Nat} (h : ks.drop n = a :: b :: r) (a0 : 0 ≤ a) (a1 : a < 256) (b0 : 0 ≤ b) (b1 : b < 256) : getL ks n (2 : Int).toNat = a * 256 + b := by
  unfold getL
  rw [h]
  exact fold2 a0 a1 b0 b1
theorem body_k {ts : List TagV} {ps : List Int} {i : Nat} {t : TagV} (h : ts[i]? = some t) (hr : RowOk t) : getL (bodyL ts ps) (12 + 4 * i) (2 : Int).toNat = t.k ∧ getL (bodyL ts ps) (12 + 4 * i + 2) (2 : Int).toNat = tagW t := by
  have hil : i < ts.length := by
    rcases Nat.lt_or_ge i ts.length with h9 | h9
    · exact h9
    · rw [List.getElem?_eq_none h9] at h; cases h
  have hd : ts.drop i = t :: ts.drop (i + 1) := by
    rw [List.drop_eq_getElem_cons hil]
    rw [List.getElem?_eq_getElem hil] at h
    cases h; rfl
  have e := bodyL_drop ts ps i (by (first | lia | omega))
  rw [hd, List.map_cons, List.flatten_cons, tagL_eq hr] at e
  have hw := tagW_range hr
  have hk : 0 ≤ t.k ∧ t.k < 65536 := by have := hr.1; (first | lia | omega)
  refine ⟨?_, ?_⟩
  · rw [get2 e (by (first | lia | omega)) (by (first | lia | omega)) (by (first | lia | omega)) (by (first | lia | omega))]; (first | lia | omega)
  · have e2 : (bodyL ts ps).drop (12 + 4 * i + 2) = [tagW t / 256, tagW t % 256] ++ (((ts.drop (i + 1)).map tagL).flatten ++ (putL 2054 2 2 ++ ps)) := by
      rw [← List.drop_drop, e]; rfl
    rw [get2 e2 (by (first | lia | omega)) (by (first | lia | omega)) (by (first | lia | omega)) (by (first | lia | omega))]; (first | lia | omega)
theorem body_end (ts : List TagV) (ps : List Int) : getL (bodyL ts ps) (12 + 4 * ts.length) (2 : Int).toNat = 2054 := by
  have e := bodyL_drop ts ps ts.length (Nat.le_refl _)
  rw [List.drop_length, putL2 (by decide) (by decide)] at e
  rw [get2 (r := ps) (a := 2054 / 256) (b := 2054 % 256) e (by decide) (by decide) (by decide) (by decide)]
  decide
theorem body_pay (ts : List TagV) (ps : List Int) : (bodyL ts ps).drop (12 + 4 * ts.length + 2) = ps := by
  rw [← List.drop_drop, bodyL_drop ts ps ts.length (Nat.le_refl _), List.drop_length, putL2 (by decide) (by decide)]
  rfl
theorem put7 : putL 7 6 6 = [0, 0, 0, 0, 0, 7] := by decide +kernel
theorem put9 : putL 9 6 6 = [0, 0, 0, 0, 0, 9] := by decide +kernel
theorem get7 : [(0 : Int), 0, 0, 0, 0, 7].foldl gstep 0 = 7 := by decide +kernel
theorem get9 : [(0 : Int), 0, 0, 0, 0, 9].foldl gstep 0 = 9 := by decide +kernel
theorem body_tg (ts : List TagV) (ps : List Int) : getL (bodyL ts ps) 0 (6 : Int).toNat = 7 := by
  unfold getL bodyL
  rw [put7]
  exact get7
theorem body_sr (ts : List TagV) (ps : List Int) : getL (bodyL ts ps) 6 (6 : Int).toNat = 9 := by
  unfold getL bodyL
  rw [put7, put9]
  exact get9
theorem bInts_inj {a b : Array UInt8} (h : KBw.bInts a = KBw.bInts b) : a = b := by
  have e : a.toList = b.toList := by
    unfold KBw.bInts at h
    generalize a.toList = l at h
    generalize b.toList = r at h
    induction l generalizing r with
    | nil => cases r with
      | nil => rfl
      | cons y r => cases h
    | cons x l ih => cases r with
      | nil => cases h
      | cons y r =>
        simp only [List.map_cons, List.cons.injEq] at h
        have hxy : x = y := UInt8.toNat_inj.mp (by (first | lia | omega))
        rw [hxy, ih r h.2]
  cases a; cases b; simpa using e
theorem take_body {ts : List TagV} {ps : List Int} {n : Nat} (h : n = (bodyL ts ps).length) : (frameL ts ps).take n = bodyL ts ps := h ▸ frameL_take ts ps
theorem drop_body {ts : List TagV} {ps : List Int} {n : Nat} (h : n = (bodyL ts ps).length) : (frameL ts ps).drop n = sumL (bodyL ts ps) := h ▸ frameL_drop ts ps
theorem drop_pay {ts : List TagV} {ps : List Int} {n : Nat} (h : n = 12 + 4 * ts.length + 2) : (bodyL ts ps).drop n = ps := h ▸ body_pay ts ps
theorem ne_bytes_eq {prog : Program} {w : World} {A : Around} {E : Value → Shared → Prop} {s : Shared} {b c : Array UInt8} {t u : Tok} {ks : List Int} {Q : Value → Shared → Prop} (hb : KBw.bInts b = ks) (hc : KBw.bInts c = ks) (h : Q (.bool false) s) : wpAny (model prog w) A (compareOp .NotEq (.bytes b t) (.bytes c u)) Q E s := by
  have e : b = c := bInts_inj (hb.trans hc.symm)
  subst e
  exact ne_bytes (by rw [bne_self_eq_false]; exact h)
theorem body_tgI (ts : List TagV) (ps : List Int) : getL (bodyL ts ps) (0 : Int).toNat (6 : Int).toNat = 7 := body_tg ts ps
theorem body_srI (ts : List TagV) (ps : List Int) : getL (bodyL ts ps) (6 : Int).toNat (6 : Int).toNat = 9 := body_sr ts ps
theorem body_endI (ts : List TagV) (ps : List Int) : getL (bodyL ts ps) (12 + 4 * (ts.length : Int)).toNat (2 : Int).toNat = 2054 := by
  have ee : (12 + 4 * (ts.length : Int)).toNat = 12 + 4 * ts.length := by (first | lia | omega)
  rw [ee]; exact body_end ts ps
end
section
open PySem PySem.W PyProof.Rows PySem.Calls PySem.Spec
section
variable {prog : Program} {w : World} {A : Around} {E : Value → Shared → Prop} {s : Shared}
theorem adjust_upto (b n : Nat) (hb : b ≤ n) : Builtin.Slice.sliceAdjust none (some (b : Int)) 1 (n : Int) = ((0 : Int), (b : Int)) := by
  unfold Builtin.Slice.sliceAdjust
  have h1 : ¬ ((1 : Int) < 0) := by (first | lia | omega)
  have h2 : ¬ ((b : Int) < 0) := by (first | lia | omega)
  simp only [h1, h2, if_false]
  congr 1
  (first | lia | omega)
theorem places_upto (b : Nat) : Builtin.Slice.slicePlaces (0 : Int) (b : Int) 1 = b := by
  unfold Builtin.Slice.slicePlaces
  have h1 : (1 : Int) > 0 := by (first | lia | omega)
  simp only [h1, if_true, Int.ediv_one]
  split <;> (first | lia | omega)
theorem sliceApplied_upto {sl : Addr} {b n : Nat} {u : Tok} {Q : Int × Int × Nat → Shared → Prop} (hs : s.heap.IsSliceOf sl .none (.int b u) .none) (hb : b ≤ n) (h : Q ((0 : Int), 1, b) s) :
    wpAny (model prog w) A (Builtin.Slice.sliceApplied (.ref sl) (pure (n : Int))) Q E s := by
  obtain ⟨os, hos, hcs, hds⟩ := id hs
  unfold Builtin.Slice.sliceApplied Builtin.Slice.sliceFields
  refine wpAny_bind (wpAny_bind (wpAny_field hos hds (x := .none) rfl (wpAny_bind (wpAny_field hos hds (x := .int b u) rfl (wpAny_bind (wpAny_field hos hds (x := .none) rfl (wpAny_pure ?_)))))))
  refine wpAny_bind (slicePart_none ?_)
  show wpAny _ _ (if ((1 : Int) == 0) = true then _ else _) _ _ s
  rw [if_neg (by decide)]
  refine wpAny_bind (slicePart_none (wpAny_bind (slicePart_int (wpAny_bind (wpAny_pure ?_)))))
  show wpAny _ _ (match Builtin.Slice.sliceAdjust none (some (b : Int)) 1 (n : Int) with | (lo, hi) => pure (lo, (1 : Int), Builtin.Slice.slicePlaces lo hi 1)) _ _ s
  rw [adjust_upto b n hb]
  show wpAny _ _ (pure ((0 : Int), (1 : Int), Builtin.Slice.slicePlaces (0 : Int) (b : Int) 1)) _ _ s
  rw [places_upto b]
  exact wpAny_pure h
theorem pick_upto (xs : Array Value) (b : Nat) : ((List.range b).filterMap fun (k : Nat) => xs[((0 : Int) + (k : Int) * 1).toNat]?).toArray = (xs.toList.take b).toArray := by
  have e : (fun (k : Nat) => xs[((0 : Int) + (k : Int) * 1).toNat]?) = fun k => xs[0 + k]? := by
    funext k
    have : ((0 : Int) + (k : Int) * 1).toNat = 0 + k := by (first | lia | omega)
    rw [this]
  rw [e]
  have := pick_run xs 0 b
  rw [List.filterMap_map] at this
  have e2 : ((fun x => xs[x]?) ∘ fun x => 0 + x) = fun k => xs[0 + k]? := rfl
  rw [e2] at this
  rw [this, List.drop_zero]
theorem getItem_tuple_upto {t sl : Addr} {items : Array Value} {b : Nat} {u : Tok} {Q : Value → Shared → Prop} (ht : IsTup s.heap t items) (hs : s.heap.IsSliceOf sl .none (.int b u) .none) (hb : b < items.size)
    (h : Q (.ref s.heap.objs.size) { s with heap := s.heap.push { cls := .type "tuple", data := .seq (items.toList.take b).toArray } })
    (hsz : items.size ≤ sizeLine) : wpAny (model prog w) A (getItem (.ref t) (.ref sl)) Q E s := by
  have hdrop : sizeOk (.seq (items.toList.take b).toArray) := by
    show (items.toList.take b).toArray.size ≤ sizeLine
    rw [List.size_toArray, List.length_take, Array.length_toList]
    (first | lia | omega)
  obtain ⟨os, hos, hcs, hds⟩ := id hs
  have hTs : s.TypeIs (.ref sl) "slice" := ⟨os, hos, hcs⟩
  unfold getItem
  try with_reducible refine wpAny_holding ?_
  first | refine wpAny_bind (wpAny_pure ?_) | skip
  refine wpAny_bind (wpAny_sequenceKey ht.typeIs (by decide) ?_)
  refine wpAny_bind (wpAny_callSpecial?_slot (name := Str.ofString "__getitem__") ht.typeIs F.slot_tuple_getitem
    (wpAny_call_entry F.slot_tuple_getitem ht.typeIs F.entry_tuple_getitem ?_ (args_tuple_getitem _ _)))
  show wpAny _ _ (Builtin.Tuple.tupleItemsOf (.ref t) >>= _) _ _ s
  refine wpAny_bind (tupleItemsOf_ ht ?_)
  refine wpAny_bind (wpAny_typeOf hTs ?_)
  rw [if_pos (by decide)]
  refine wpAny_bind (sliceApplied_upto hs (Nat.le_of_lt hb) ?_)
  have hno : ¬ (((0 : Int) == 0 && (1 : Int) == 1 && b == items.size) = true) := by
    have : (b == items.size) = false := by rw [beq_eq_false_iff_ne]; (first | lia | omega)
    rw [this]; simp
  show wpAny _ _ (if ((0 : Int) == 0 && (1 : Int) == 1 && b == items.size) = true then _ else _) _ _ s
  rw [if_neg hno, pick_upto items b]
  first
    | exact wpAny_bind (m := Builtin.Tuple.tupleExact _) (wpAny_newObj_type (wpAny_pure ⟨_, rfl, wpAny_pure h⟩) hdrop)
    | exact wpAny_bind (m := Builtin.Tuple.tupleExact _) (wpAny_newObj_type (wpAny_bind (wpAny_pure (wpAny_pure ⟨_, rfl, wpAny_pure h⟩))) hdrop)
    | exact wpAny_bind (wpAny_bind (m := Builtin.Tuple.tupleExact _) (wpAny_newObj_type (wpAny_pure (wpAny_pure ⟨_, rfl, wpAny_pure h⟩)) hdrop))
    | exact wpAny_bind (wpAny_bind (m := Builtin.Tuple.tupleExact _) (wpAny_newObj_type (wpAny_pure ⟨_, rfl, wpAny_pure h⟩) hdrop))
end
section
variable {prog : Program} {w : World} {A : Around} {E : Value → Shared → Prop} {s : Shared} {h₀ : Heap} {L : Addr} {m : Str → Option Value} {news : Led} {Q : Value → Shared → Prop} {value slice : PySem.Expr}
/-- t[:b] of a longer tuple of the ledger -/
theorem upto_led {t : Addr} {vs : List Value} {b : Nat} {u : Tok}
    (F : Fr h₀ L s.heap m) (N : News h₀ L s.heap news) (hm : (t, tupObj vs) ∈ news) (hb : b < vs.length) (hz : vs.length ≤ 5000)
    (h : ∀ D h', Fr h₀ L h' m → News h₀ L h' ((D, tupObj (vs.take b)) :: news) → (∀ q ∈ news, @LT.lt Nat _ q.1 D) → Q (.ref D) { s with heap := h' })
    (hs : subscripted slice false (.ref t) (.ref s.heap.objs.size) = operate [.ref s.heap.objs.size, .ref t] (getItem (.ref t) (.ref s.heap.objs.size)) := by with_unfolding_all rfl)
    (hg : ∀ r, letTemporaryGo value (.ref t) r = pure () := by intro _; with_unfolding_all rfl) :
    wpAny (model prog w) A (subscriptTail value slice (.ref t) (.ref s.heap.objs.size)) Q E { s with heap := s.heap.push { cls := .type "slice", data := .fields #[.none, .int b u, .none] } } := by
  have ht := News.isTup N hm
  have ht' : IsTup (s.heap.push { cls := .type "slice", data := .fields #[.none, .int b u, .none] }) t vs.toArray := ht.keeps fun _ _ e => Heap.get?_push_of_some _ e
  refine subscriptTail_ops (s := { s with heap := s.heap.push { cls := .type "slice", data := .fields #[.none, .int b u, .none] } }) ht'.typeIs PySem.F.slot_tuple_getitem.lookup
    (getItem_tuple_upto ht' (Heap.IsSliceOf.new ..) (by simpa using hb) ?_ (by rw [sizeLine_eq]; simp; (first | lia | omega))) hs hg
  have N1 := News.push (F.push { cls := .type "slice", data := .fields #[.none, .int b u, .none] }) (N.grown fun _ _ e => Heap.get?_push_of_some _ e) (tupObj (vs.take b))
  rw [Heap.size_push] at N1
  show Q (.ref (s.heap.push _).objs.size) _
  rw [Heap.size_push]
  exact h _ _ ((F.push _).push _) N1 fun q hq => Nat.lt_succ_of_lt (Heap.lt_size (N q hq).1)
/-- l[0] of a list of the ledger -/
theorem item_lst0 {l : Addr} {x : Value} {vs : List Value} {k : Nat} {u : Tok} (N : News h₀ L s.heap news) (hm : (l, ({ cls := .type "list", data := .seq (x :: vs).toArray k } : Obj)) ∈ news) (h : Q x s)
    (hs : subscripted slice false (.ref l) (.int 0 u) = operate [.ref l, .int 0 u] (getItem (.ref l) (.int 0 u)) := by with_unfolding_all rfl) (hg : ∀ r, letTemporaryGo value (.ref l) r = pure () := by intro _; with_unfolding_all rfl) :
    wpAny (model prog w) A (subscriptTail value slice (.ref l) (.int 0 u)) Q E s :=
  item_listL (l := x :: vs) ⟨_, (N _ hm).1, rfl, _, rfl⟩ (by decide) (by decide) rfl h hs hg
/-- l[a:] of a list of the ledger -/
theorem from_lst {l : Addr} {vs : List Value} {a k : Nat} {u : Tok} (F : Fr h₀ L s.heap m) (N : News h₀ L s.heap news) (hm : (l, ({ cls := .type "list", data := .seq vs.toArray k } : Obj)) ∈ news) (hz : vs.length ≤ 5000)
    (h : ∀ D h', Fr h₀ L h' m → News h₀ L h' ((D, ({ cls := .type "list", data := .seq (vs.drop a).toArray } : Obj)) :: news) → (∀ q ∈ news, @LT.lt Nat _ q.1 D) → Q (.ref D) { s with heap := h' })
    (hs : subscripted slice false (.ref l) (.ref s.heap.objs.size) = operate [.ref s.heap.objs.size, .ref l] (getItem (.ref l) (.ref s.heap.objs.size)) := by with_unfolding_all rfl)
    (ht : ∀ r, letTemporaryGo value (.ref l) r = pure () := by intro _; with_unfolding_all rfl) :
    wpAny (model prog w) A (subscriptTail value slice (.ref l) (.ref s.heap.objs.size)) Q E { s with heap := s.heap.push { cls := .type "slice", data := .fields #[.int (a : Int) u, .none, .none] } } := by
  have e : sliceBounds (some (a : Int)) none none vs.toArray.size = (((min a vs.toArray.size : Nat) : Int), ((vs.toArray.size : Nat) : Int), 1) := by
    simp only [sliceBounds, Option.getD_none, show (1 : Int) > 0 by decide, if_true, if_neg (show ¬ ((a : Int) < 0) by (first | lia | omega))]
    congr 1
    (first | lia | omega)
  have e2 : slicePick vs.toArray (some (a : Int)) none none = (vs.drop a).toArray := by
    rw [kmk_pick_nat _ e]
    show ((vs.drop (min a vs.toArray.size)).take (vs.toArray.size - min a vs.toArray.size)).toArray = _
    rw [List.size_toArray, kmk_drop_min, List.take_of_length_le (by rw [List.length_drop]; (first | lia | omega))]
  refine kmk_slice F N (its := vs.toArray) ⟨_, (N _ hm).1, rfl, _, rfl⟩ (IsPart.int _ _) IsPart.none (fun D h' F' N' l1 => h D h' F' ?_ l1) hs ht (by rw [sizeLine_eq]; simp; (first | lia | omega))
  rw [e2] at N'
  exact N'
end
end
section
open PySem PySem.W PyProof.Rows PySem.Calls PySem.Spec
section
variable {prog : Program} {w : World} {A : Around} {E : Value → Shared → Prop} {s : Shared} {h₀ : Heap} {L : Addr} {m : Str → Option Value} {news : Led} {Q : Value → Shared → Prop} {value slice : PySem.Expr}
theorem upto_led2 {t : Addr} {v0 v1 v2 : Value} {vs : List Value} {u : Tok}
    (F : Fr h₀ L s.heap m) (N : News h₀ L s.heap news) (hm : (t, tupObj (v0 :: v1 :: v2 :: vs)) ∈ news) (hz : vs.length ≤ 4000)
    (h : ∀ D h', Fr h₀ L h' m → News h₀ L h' ((D, tupObj [v0, v1]) :: news) → (∀ q ∈ news, @LT.lt Nat _ q.1 D) → Q (.ref D) { s with heap := h' })
    (hs : subscripted slice false (.ref t) (.ref s.heap.objs.size) = operate [.ref s.heap.objs.size, .ref t] (getItem (.ref t) (.ref s.heap.objs.size)) := by with_unfolding_all rfl)
    (hg : ∀ r, letTemporaryGo value (.ref t) r = pure () := by intro _; with_unfolding_all rfl) :
    wpAny (model prog w) A (subscriptTail value slice (.ref t) (.ref s.heap.objs.size)) Q E { s with heap := s.heap.push { cls := .type "slice", data := .fields #[.none, .int 2 u, .none] } } :=
  upto_led (b := 2) F N hm (by simp) (by simp; (first | lia | omega)) h hs hg
theorem from_led3 {t : Addr} {v0 v1 v2 : Value} {vs : List Value} {u : Tok}
    (F : Fr h₀ L s.heap m) (N : News h₀ L s.heap news) (hm : (t, tupObj (v0 :: v1 :: v2 :: vs)) ∈ news) (hz : vs.length ≤ 4000)
    (h : ∀ D h', Fr h₀ L h' m → News h₀ L h' ((D, tupObj vs) :: news) → (∀ q ∈ news, @LT.lt Nat _ q.1 D) → Q (.ref D) { s with heap := h' })
    (hs : subscripted slice false (.ref t) (.ref s.heap.objs.size) = operate [.ref s.heap.objs.size, .ref t] (getItem (.ref t) (.ref s.heap.objs.size)) := by with_unfolding_all rfl)
    (hg : ∀ r, letTemporaryGo value (.ref t) r = pure () := by intro _; with_unfolding_all rfl) :
    wpAny (model prog w) A (subscriptTail value slice (.ref t) (.ref s.heap.objs.size)) Q E { s with heap := s.heap.push { cls := .type "slice", data := .fields #[.int 3 u, .none, .none] } } :=
  from_ledT (a := 3) F N hm (by (first | lia | omega)) (by simp) (by simp; (first | lia | omega)) h hs hg
theorem from_lst1 {l : Addr} {x : Value} {vs : List Value} {k : Nat} {u : Tok} (F : Fr h₀ L s.heap m) (N : News h₀ L s.heap news) (hm : (l, ({ cls := .type "list", data := .seq (x :: vs).toArray k } : Obj)) ∈ news) (hz : vs.length ≤ 4000)
    (h : ∀ D h', Fr h₀ L h' m → News h₀ L h' ((D, ({ cls := .type "list", data := .seq vs.toArray } : Obj)) :: news) → (∀ q ∈ news, @LT.lt Nat _ q.1 D) → Q (.ref D) { s with heap := h' })
    (hs : subscripted slice false (.ref l) (.ref s.heap.objs.size) = operate [.ref s.heap.objs.size, .ref l] (getItem (.ref l) (.ref s.heap.objs.size)) := by with_unfolding_all rfl)
    (ht : ∀ r, letTemporaryGo value (.ref l) r = pure () := by intro _; with_unfolding_all rfl) :
    wpAny (model prog w) A (subscriptTail value slice (.ref l) (.ref s.heap.objs.size)) Q E { s with heap := s.heap.push { cls := .type "slice", data := .fields #[.int 1 u, .none, .none] } } :=
  from_lst (a := 1) F N hm (by simp; (first | lia | omega)) h hs ht
end
theorem row_eqv {news : Led} {a b : Addr} {t : TagV} (ha : (a, rowObj t) ∈ news) (hb : (b, rowObj t) ∈ news) : EqvN news 1 (.ref a) (.ref b) :=
  .tup ha hb (.cons (.same _ _) (.cons (.same _ _) (.cons (.same _ _) (.cons (.same _ _) (.nil _)))))
theorem rows_eqv {news : Led} : ∀ {xs ys : List Addr} {ts : List TagV}, RowsAt news xs ts → RowsAt news ys ts → EqvA news 1 (xs.map Value.ref) (ys.map Value.ref)
  | [], [], [], _, _ => .nil _
  | _ :: _, _ :: _, _ :: _, h, k => .cons (row_eqv h.1 k.1) (rows_eqv h.2 k.2)
  | [], _ :: _, [], _, k => k.elim
  | _ :: _, _, [], h, _ => h.elim
  | [], _, _ :: _, h, _ => h.elim
  | _ :: _, [], _ :: _, _, k => k.elim
theorem told_eqv {news : Led} {i j k : Int} {t1 t2 t3 u1 u2 u3 : Tok} {T U : Addr} {b : Array UInt8} {t4 u4 : Tok} {xs ys : List Addr} {ts : List TagV} (hT : (T, tupObj (xs.map Value.ref)) ∈ news) (hU : (U, tupObj (ys.map Value.ref)) ∈ news) (hx : RowsAt news xs ts) (hy : RowsAt news ys ts) :
    EqvA news 2 [.int i t1, .int j t2, .ref T, .int k t3, .bytes b t4] [.int i u1, .int j u2, .ref U, .int k u3, .bytes b u4] :=
  .cons (.int _ _ _ _) (.cons (.int _ _ _ _) (.cons (.tup hT hU (rows_eqv hx hy)) (.cons (.int _ _ _ _) (.cons (.bytes _ _ _ _) (.nil _)))))
theorem told_eqvD {news : Led} {i j k : Int} {t1 t2 t3 u1 u2 u3 : Tok} {T U d : Addr} {b : Array UInt8} {t4 u4 : Tok} {xs ys : List Addr} {t : TagV} {ts : List TagV} (hT : (T, tupObj (xs.map Value.ref)) ∈ news) (hU : (U, tupObj (.ref d :: ys.map Value.ref)) ∈ news) (hx : RowsAt news xs (t :: ts)) (hd : (d, rowObj t) ∈ news) (hy : RowsAt news ys ts) :
    EqvA news 2 [.int i t1, .int j t2, .ref T, .int k t3, .bytes b t4] [.int i u1, .int j u2, .ref U, .int k u3, .bytes b u4] :=
  told_eqv (ys := d :: ys) hT hU hx ⟨hd, hy⟩
theorem RowsAt.cons' {news : Led} {x : Addr} {xs : List Addr} {t : TagV} {ts : List TagV} (h : (x, rowObj t) ∈ news) (k : RowsAt news xs ts) : RowsAt news (x :: xs) (t :: ts) := ⟨h, k⟩
end
section
open PySem PySem.W PyProof.Rows PySem.Calls PySem.Spec
theorem RaisedSN.sub {base G : Heap} {l : List Env} {e : Addr} {cls : Value} {a b : Led} {h : Heap} (R : RaisedSN base G l e cls b h) (k : ∀ q ∈ a, q ∈ b) : RaisedSN base G l e cls a h := by
  obtain ⟨B, a0, hB, hBG, hl, hfl⟩ := R
  exact ⟨B, a0, hB, hBG, fun q hq => hl q (k q hq), hfl⟩
/-- a call that raises an exception of the class C, and leaves the ledger as it is -/
noncomputable def CtrX (w : World) (f : Addr) (d u : Nat) (args : List Value) (news : Led) (C : Addr) : Prop :=
  ∀ (p : Program) (loose : List Str) (mean : ExcName → Option Value) (mg mb : Str → Option Value) (dp un : Nat) (gd : Option (List Code)) (cn : Str) (cs : Scope) (ad : Addr) (ccd : Value) (cl : List (Str × Addr)) (outer : List Env) (A₀ : Around) (base h₀ : Heap) (L : Addr) (m : Str → Option Value) (s : Shared) (Q E : Value → Shared → Prop),
    Below A₀ base outer h₀ → Fr h₀ L s.heap m → (hd.heap_1 w.params).In h₀ → News h₀ L s.heap news → Top p loose mean mg mb h₀ → cs.kind = .function → dp + d < recursionLimit → un + u < cLine →
    (∀ e h' tk' G, Fr h₀ L G m → RaisedSN base G (envX cn cs L ad ccd cl :: outer) e (.ref C) news h' → G.UpToSlots h' → E (.ref e) { s with heap := h', toks := tk' }) →
    wpAny (model PySem.Challenge.rw_pf0386_01.row.prog w) (ktrTop dp un gd cn cs L ad ccd cl outer) (call (.ref f) args) Q E s
theorem CtrX.use {w : World} {f : Addr} {d u : Nat} {args : List Value} {news : Led} {C9 : Addr} (C : CtrX w f d u args news C9)
    {p : Program} {loose : List Str} {mean : ExcName → Option Value} {mg mb : Str → Option Value} {dp un : Nat} {gd : Option (List Code)} {cn : Str} {cs : Scope} {ad : Addr} {ccd : Value} {cl : List (Str × Addr)} {outer : List Env} {A₀ : Around} {base h₀ : Heap} {L : Addr} {m : Str → Option Value} {s : Shared} {Q E : Value → Shared → Prop}
    (B : Below A₀ base outer h₀) (F : Fr h₀ L s.heap m) (X : (hd.heap_1 w.params).In h₀) (N : News h₀ L s.heap news) (T : Top p loose mean mg mb h₀) (hk : cs.kind = .function) (hd : dp + d < recursionLimit) (hu : un + u < cLine)
    (ret : ∀ e h' tk' G, Fr h₀ L G m → RaisedSN base G (envX cn cs L ad ccd cl :: outer) e (.ref C9) news h' → G.UpToSlots h' → E (.ref e) { s with heap := h', toks := tk' }) :
    wpAny (model PySem.Challenge.rw_pf0386_01.row.prog w) (ktrTop dp un gd cn cs L ad ccd cl outer) (call (.ref f) args) Q E s :=
  C p loose mean mg mb dp un gd cn cs ad ccd cl outer A₀ base h₀ L m s Q E B F X N T hk hd hu ret
end
section
open PySem PySem.W PyProof.Rows PySem.Calls PySem.Spec
set_option maxHeartbeats 2000000
open LCg
/-- an exception with a traceback, in flight at whatever frame -/
noncomputable def FlyAny (base : Heap) (l : List Env) (e : Addr) (cls a0 : Value) (h : Heap) : Prop :=
  base.StaysIn h ∧ base.get? e = none ∧ h.FunFrames base l ∧ ∃ fl, (fl = .none ∨ ∃ k, fl = rawInt k) ∧ h.TracedAtW base e cls a0 fl
noncomputable def RaisedAny (base G : Heap) (l : List Env) (e : Addr) (cls : Value) (news : Led) (h : Heap) : Prop :=
  ∃ B a0, base.StaysIn B ∧ (∀ b o, G.get? b = some o → b ∉ l.filterMap (·.frame) → B.get? b = some o) ∧ (∀ q ∈ news, B.get? q.1 = some q.2 ∧ G.get? q.1 = none ∧ base.get? q.1 = none) ∧ FlyAny B l e cls a0 h
section
variable {M : Model} {A : Around} {E : Value → Shared → Prop} {s : Shared} {base : Heap} {env : Env} {outer l : List Env} {L e : Addr} {cls a0 : Value}
theorem note_any {Q : Unit → Shared → Prop} (hfr : A.frames = some (env :: outer)) (hf : env.frame = some L) (hfl : FlyAny base (env :: outer) e cls a0 s.heap)
    (hQ : ∀ h', Heap.HeldW base (env :: outer) e cls a0 L h' → s.heap.UpToSlots h' → Q () { s with heap := h' }) : wpAny M A (noteFrame (.ref e) env) Q E s := by
  obtain ⟨f1, f2, f3, fl, hfl, f4⟩ := hfl
  by_cases hL : fl = rawInt L
  · subst hL
    exact wpAny_noteFrame_againW hf f4 (hQ s.heap ⟨f1, f2, f3, f4⟩ (.refl _))
  · obtain ⟨oe, vs, T, oT, ts, he, ⟨hcls, h0⟩, hd, h1, hnT, hTe, hT, hdT, h3⟩ := f4
    subst hcls
    unfold noteFrame
    simp only [hf]
    refine wpAny_bind (wpAny_field he hd h1 ?_)
    rw [if_pos (show (Value.ref T != Value.none) = true from by simp)]
    refine wpAny_bind (wpAny_field hT hdT h3 ?_)
    rw [if_neg (show ¬ ((fl == rawInt L) = true) from by
      rcases hfl with rfl | ⟨k, rfl⟩
      · simp [rawInt]
      · intro q
        apply hL
        simp only [rawInt] at q ⊢
        simpa using q)]
    refine wpAny_bind (wpAny_setField hT hdT (Array.getElem?_eq_some_iff.mp h3).1 ?_)
    have other : ∀ b, b ≠ T → (s.heap.update T (Obj.mapFields (·.setIfInBounds 3 Value.none))).get? b = s.heap.get? b := fun b hb => Heap.get?_update_other _ _ (Ne.symm hb)
    have noRecord : ∀ b o, s.heap.get? b = some o → (∀ vs, o.data ≠ .fields vs) → b ≠ T := fun b o hb hnf q => by
      rw [q, hT] at hb; injection hb with hb; subst hb; exact hnf ts hdT
    refine wpAny_entryW hfr (f3.of_keeps fun b o hb hnf => ⟨o, (other b (noRecord b o hb hnf)).trans hb, rfl⟩) hf ((other e (Ne.symm hTe)).trans he)
      (fun b o hbo => (other b fun q => by rw [q, hnT] at hbo; cases hbo).trans (f1 b o hbo)) f2 hd (Array.getElem?_eq_some_iff.mp h1).1 h0
      fun h' ⟨x1, x2, x3, x4⟩ => hQ h' ⟨x1, f2, x2, x3⟩ fun b o hb hnf => x4 b o ((other b (noRecord b o hb hnf)).trans hb) hnf
theorem leaves_any {Q : Unit → Shared → Prop} (hfr : A.frames = some (env :: outer)) (hf : env.frame = some L) (hfl : FlyAny base (env :: outer) e cls a0 s.heap)
    (hQ : ∀ h', Heap.FlyingW base outer e cls a0 h' → s.heap.UpToSlots h' → Q () { s with heap := h' }) : wpAny M A (leaving env (.ref e)) Q E s := by
  unfold leaving
  refine wpAny_bind (note_any hfr hf hfl fun h₁ hh hs => ?_)
  refine wpAny_landsW hh fun h' hl' hs' => ?_
  obtain ⟨k1, k2, ⟨_, _, k3⟩, k4⟩ := hl'
  exact hQ h' ⟨k1, k2, k3, k4⟩ (hs.trans hs')
theorem setFlight_any {fo : Option Addr} {Q : Unit → Shared → Prop} (hh : FlyAny base l e cls a0 s.heap)
    (h : ∀ h', FlyAny base l e cls a0 h' → s.heap.UpToSlots h' → Q () { s with heap := h' }) :
    wpAny M A (setFlight (.ref e) fo) Q E s := by
  obtain ⟨hkb, f2, hl, fl, hfl, oe, vs, T, oT, ts, he, hcls, hd, h1, hnT, hTe, hT, hdT, h3⟩ := hh
  have hsz3 : 3 < ts.size := (Array.getElem?_eq_some_iff.mp h3).1
  have other : ∀ b, b ≠ T → (s.heap.update T (Obj.mapFields (·.setIfInBounds 3 (fo.elim Value.none fun f => rawInt f)))).get? b = s.heap.get? b :=
    fun b hb => Heap.get?_update_other _ _ (Ne.symm hb)
  have noRecord : ∀ b o, s.heap.get? b = some o → (∀ vs, o.data ≠ .fields vs) → b ≠ T := fun b o hb hnf q => by
    rw [q, hT] at hb; injection hb with hb; subst hb; exact hnf ts hdT
  unfold setFlight
  refine wpAny_bind (wpAny_field he hd h1 ?_)
  rw [if_pos (show (Value.ref T != Value.none) = true from by simp)]
  refine wpAny_setField hT hdT hsz3 (h _ ⟨fun b o hbo => (other b fun q => by rw [q, hnT] at hbo; cases hbo).trans (hkb b o hbo), f2,
    hl.of_keeps fun b o hb hnf => ⟨o, (other b (noRecord b o hb hnf)).trans hb, rfl⟩, fo.elim Value.none fun f => rawInt f, ?_, ?_⟩ fun b o hb hn => ⟨o.slots, (other b (noRecord b o hb hn)).trans hb⟩)
  · cases fo with
    | none => exact .inl rfl
    | some k => exact .inr ⟨k, rfl⟩
  · exact ⟨oe, vs, T, _, _, (other e (Ne.symm hTe)).trans he, hcls, hd, h1, hnT, hTe, Heap.get?_update_self _ hT (Obj.isFreed_of_fields (Obj.data_mapFields hdT _)), Obj.data_mapFields hdT _, by simp [hsz3]⟩
theorem passOn_any {α : Type} {what : String} {cenv : Env} {Q : α → Shared → Prop} (hh : FlyAny base l e cls a0 s.heap)
    (h : ∀ h', FlyAny base l e cls a0 h' → s.heap.UpToSlots h' → E (.ref e) { s with heap := h' }) :
    wpAny M A (PySem.passOn what (.ref e) cenv : Sem α) Q E s := by
  have hh' := hh
  obtain ⟨hkb, f2, hl, fl, hfl, oe, vs, T, oT, ts, he, hcls, hd, h1, hnT, hTe, hT, hdT, h3⟩ := hh
  unfold PySem.passOn
  refine wpAny_bind (wpAny_field he hd h1 ?_)
  rw [if_neg (show ¬ ((Value.ref T == Value.none) = true) from by simp)]
  exact wpAny_bind (setFlight_any hh' fun h' f u => wpAny_throw (h h' f u))
/-- the exception is not the one object that is laid aside -/
theorem FlyAny.less {C : Addr} {oC : Obj} {h h' : Heap} (F : FlyAny base l e cls a0 h) (hC : base.get? C = some oC) (hs : Heap.SameBut C h h') : FlyAny (hideAll base [C]) l e cls a0 h' := by
  obtain ⟨hkb, f2, hl, fl, hfl, oe, vs, T, oT, ts, he, hcls, hd, h1, hnT, hTe, hT, hdT, h3⟩ := F
  have hne : ∀ {b}, base.get? b = none → b ≠ C := fun hb q => by rw [q, hC] at hb; cases hb
  have hn : ∀ {b}, base.get? b = none → (hideAll base [C]).get? b = none := fun {b} hb => by
    cases q : (hideAll base [C]).get? b with
    | none => rfl
    | some o => have := of_hideAll _ q; rw [hb] at this; cases this
  refine ⟨fun b o q => hs.extBut b o (fun z => ?_) (hkb b o (of_hideAll _ q)), hn f2, ?_, fl, hfl, oe, vs, T, oT, ts, hs.extBut e _ (hne f2) he, hcls, hd, h1, hn hnT, hTe, hs.extBut T _ (hne hnT) hT, hdT, h3⟩
  · rw [z, hideAll_none [C] (.head _)] at q; cases q
  · clear he hT hkb
    revert hl
    induction l with
    | nil => intro _; trivial
    | cons env l ih =>
      rintro ⟨hk, ⟨L, o, hf, hn', ho, hd'⟩, hr⟩
      exact ⟨hk, ⟨L, o, hf, hn hn', hs.extBut L _ (hne hn') ho, hd'⟩, ih hr⟩
end
section
variable {M : Model} {A : Around} {E : Value → Shared → Prop} {s' : Shared} {base g g₂ : Heap} {outer : List Env} {L e : Addr} {m : Str → Option Value} {Q : Unit → Shared → Prop} {news : Led}
theorem pass_anyS {env : Env} (hfe : env.frame = some L) {cls : Value} (K : Below A base outer g) (F : Fr g L g₂ m) (R : RaisedAny base g₂ (env :: outer) e cls news s'.heap) (hsm : g₂.UpToSlots s'.heap)
    (hQ : ∀ h', RaisedSN base g outer e cls news h' → g.UpToSlots h' → Q () { s' with heap := h' }) :
    wpAny M (A.deeper env) (leaving env (.ref e)) Q E s' := by
  obtain ⟨B, a0, hB, hBG, hl, hfl⟩ := R
  exact leaves_any (Around.frames_deeper K.stack) hfe hfl fun h' x1 x2 =>
    hQ h' ⟨B, a0, hB, fun b o q nm => hBG b o (F.keep b o q) (fun hm => by
      rcases kts_memX hfe hm with z | z
      · rw [z, kts_self F] at q
        cases q
      · exact nm z), fun q hq => ⟨(hl q hq).1, kts_none F.keep (hl q hq).2.1, (hl q hq).2.2⟩, x1⟩ ((Heap.UpToSlots.of_keeps F.keep).trans (hsm.trans x2))
end
section
variable {prog : Program} {w : World} {A : Around} {E : Value → Shared → Prop} {s : Shared} {L : Addr} {m : Str → Option Value} {env : Env}
noncomputable def XSrc (prog : Program) (w : World) (A : Around) (E : Value → Shared → Prop) (base g : Heap) (outer : List Env) (L : Addr) (m : Str → Option Value) (env : Env) (elt : PySem.Expr) (x : Str) (scope : Scope) (cl : List (Str × Addr)) (xv : Value) (s₁ : Shared) : Prop :=
  ∃ (ax : Addr) (v0 : Value) (its : List Value) (news : Led) (cls : Value), xv = .ref ax ∧ A.handled = none ∧ Fr g L s₁.heap m ∧ News g L s₁.heap news ∧ (ax, tupObj (v0 :: its)) ∈ news ∧
    (∀ h I oI C oC D m₂ tk (E' : Value → Shared → Prop), NsObj oC m₂ → m₂ x = some v0 → Fr g L h m → News g L h ((I, oI) :: (C, oC) :: (D, lst []) :: news) → Off3 I C D news →
      (∀ e h' tk' G, Fr g L G m → RaisedSN base G (env :: outer) e cls ((I, oI) :: (C, oC) :: (D, lst []) :: news) h' → G.UpToSlots h' → E' (.ref e) { s₁ with heap := h', toks := tk' }) →
      wpAny (model prog w) A (eval elt (compEnvC scope cl C env)) (fun _ _ => False) E' { s₁ with heap := h, toks := tk }) ∧
    (∀ e h' tk' G, Fr g L G m → RaisedAny base G (env :: outer) e cls news h' → G.UpToSlots h' → E (.ref e) { s₁ with heap := h', toks := tk' })
/-- a comprehension whose first element raises -/
theorem ListComp_x (base g : Heap) (outer : List Env) {elt iter : PySem.Expr} {x : Str} {px : Pos} {scope : Scope} {cl : List (Str × Addr)} {pos : Pos} {Q : Value → Shared → Prop}
    (hfr : A.frames = some (env :: outer)) (hf : env.frame = some L)
    (hclos : closureFor scope env = pure cl) (hcell : ∀ y ∈ scope.names, y.2 ≠ .cell) (hkind : scope.kind = .function)
    (hnames : ∀ y ∈ scope.names, y.2 = .local → scope.names.lookup y.1 = some .local) (hx : scope.names.lookup x = some .local)
    (h : wpAny (model prog w) A (eval iter env) (XSrc prog w A E base g outer L m env elt x scope cl) E s)
    (hs : ∀ x, foldedSetIterable iter env x = pure x := by intro _; rfl) :
    wpAny (model prog w) A (eval (.ListComp elt [⟨.Name x px, iter, [], 0⟩] scope pos) env) Q E s := by
  rw [eval_ListComp]
  refine wpAny_comprehension_free (use := none) rfl hs hclos hkind hnames (wpAny_mono h (fun xv s₁ h₁ => ?_) fun _ _ e => e)
  obtain ⟨ax, v0, its, news, cls, rfl, hh, F, N, hm, turn, fin⟩ := h₁
  have hl : s₁.heap.IsTuple ax (v0 :: its).toArray := ⟨_, (N _ hm).1, rfl, _, rfl⟩
  have hltx : ax < s₁.heap.objs.size := Heap.lt_size (N _ hm).1
  refine wpAny_pyIter_tuple hl ?_
  generalize hs2 : ({ s₁ with heap := s₁.heap.push { cls := .type "tuple_iterator", data := .fields #[.ref ax, .int 0 0] } } : Shared) = s₂
  have up : ∀ b o, s₁.heap.get? b = some o → s₂.heap.get? b = some o := fun b o e => hs2 ▸ Heap.get?_push_of_some _ e
  have F2 : Fr g L s₂.heap m := F.keeps up
  have N2 : News g L s₂.heap news := N.grown up
  have hI2 : s₂.heap.objs.size = s₁.heap.objs.size + 1 := by rw [← hs2]; exact Heap.size_push ..
  have W := Walks.tuple (prog := prog) (w := w) (A := A) hh s₁.heap.objs.size ax (Nat.ne_of_lt hltx) (v0 :: its).toArray
  have hst : s₂.heap.IsTupleIter s₁.heap.objs.size ax 0 ∧ s₂.heap.IsTuple ax (v0 :: its).toArray := by subst hs2; exact ⟨⟨_, Heap.get?_push_size _ rfl, rfl, rfl⟩, ⟨_, Heap.get?_push_of_some _ (N _ hm).1, rfl, _, rfl⟩⟩
  generalize hIe : s₁.heap.objs.size = I at *
  have hfp : ∀ b ∈ [I, ax], b < s₂.heap.objs.size := fun b hb => by
    rw [hI2]
    rcases List.mem_cons.mp hb with rfl | hb
    · exact Nat.lt_succ_self _
    · rw [List.mem_singleton.mp hb]; exact Nat.lt_succ_of_lt hltx
  have hIL : L ≠ I := by have z := F.ns.lt; rw [hIe] at z; exact Nat.ne_of_lt z
  have offI : ∀ p ∈ news, p.1 ≠ I := fun p hp => by have z := Heap.lt_size (N p hp).1; rw [hIe] at z; exact Nat.ne_of_lt z
  have hI₀ : g.get? I = none := by
    cases e : g.get? I with
    | none => rfl
    | some o' => have z := Heap.lt_size (F.keep _ _ e); rw [hIe] at z; exact absurd z (Nat.lt_irrefl _)
  have hs2' : ∀ h' tk', ({ s₂ with heap := h', toks := tk' } : Shared) = { s₁ with heap := h', toks := tk' } := fun _ _ => by subst hs2; rfl
  show wpAny (model prog w) A (newList []) (fun acc s₃ => wpAny (model prog w) A (newFunctionEnv scope env.globals cl [] env.qual none .none (some env)) (fun cenv s₄ =>
      codeAny (model prog w) A (.compStart (.ListComp elt [⟨.Name x px, iter, [], 0⟩] scope pos) 0 (.ref I) acc { cenv with scope := relabel scope env }) (compPost (model prog w) A E none Q acc cenv.locals) s₄) E s₃) E s₂
  refine wpAny_newObj_type (wpAny_newFunctionEnv hcell (by intro y hy; simp at hy) (fun h₁ hns₁ hsb₁ => ?_) hkind)
  dsimp only at hns₁ hsb₁ ⊢
  generalize hH2 : s₂.heap.push { cls := .type "list", dict := none, data := .seq ([] : List Value).toArray } = H2 at hns₁ hsb₁ ⊢
  have hC : H2.objs.size = s₂.heap.objs.size + 1 := by rw [← hH2, Heap.size_push]
  have hDC : s₂.heap.objs.size ≠ H2.objs.size := by rw [hC]; exact Nat.ne_of_lt (Nat.lt_succ_self _)
  have below : ∀ b, b < s₂.heap.objs.size → b ≠ H2.objs.size ∧ b ≠ s₂.heap.objs.size := fun b hb => ⟨by rw [hC]; exact Nat.ne_of_lt (Nat.lt_succ_of_lt hb), Nat.ne_of_lt hb⟩
  have hCf : H2.objs.size ∉ [I, ax] := fun hm => by have := hfp _ hm; rw [hC] at this; exact Nat.lt_irrefl _ (Nat.lt_of_succ_lt this)
  have hIlt : I < s₂.heap.objs.size := hfp I (by simp)
  have old : ∀ b o, s₂.heap.get? b = some o → h₁.get? b = some o := fun b o e => hsb₁.extBut b o (below b (Heap.lt_size e)).1 (Heap.get?_push_of_some _ (hH2 ▸ Heap.get?_push_of_some _ e))
  have hacc : h₁.get? s₂.heap.objs.size = some (lst []) := hsb₁.extBut _ _ hDC (Heap.get?_push_of_some _ (hH2 ▸ Heap.get?_push_size _ rfl))
  have hst₁ : h₁.IsTupleIter I ax 0 ∧ h₁.IsTuple ax (v0 :: its).toArray := W.frame _ _ _ hst fun b _ o e => old b o e
  have fresh : ∀ a, s₂.heap.objs.size ≤ a → s₂.heap.get? a = none := fun a ha => by
    cases e : s₂.heap.get? a with
    | none => rfl
    | some o' => exact absurd (Heap.lt_size e) (Nat.not_lt.mpr ha)
  have fresh₀ : ∀ a, s₂.heap.objs.size ≤ a → g.get? a = none := fun a ha => by
    cases e : g.get? a with
    | none => rfl
    | some o' => have := F2.keep a o' e; rw [fresh a ha] at this; cases this
  have hD₀ : g.get? s₂.heap.objs.size = none := fresh₀ _ (Nat.le_refl _)
  have hC₀ : g.get? H2.objs.size = none := fresh₀ _ (by rw [hC]; exact Nat.le_succ _)
  have hLlt : L < s₂.heap.objs.size := F2.ns.lt
  have hDL : s₂.heap.objs.size ≠ L := Ne.symm (below L hLlt).2
  have hCL : H2.objs.size ≠ L := Ne.symm (below L hLlt).1
  have hCI : I ≠ H2.objs.size := (below I hIlt).1
  have hDI : I ≠ s₂.heap.objs.size := (below I hIlt).2
  have off₀ : Off3 I H2.objs.size s₂.heap.objs.size news := Off3.of fun p hp => ⟨offI p hp, (below _ (Heap.lt_size (N2 p hp).1)).1, (below _ (Heap.lt_size (N2 p hp).1)).2⟩
  have off3 := off₀.mem
  have N1 : News g L h₁ ((s₂.heap.objs.size, lst []) :: news) := fun p hp => by
    rcases List.mem_cons.mp hp with rfl | hp
    · exact ⟨hacc, hDL, hD₀⟩
    · exact ⟨old _ _ (N2 p hp).1, (N2 p hp).2⟩
  have loop : ∀ s₃ : Shared, s₃ = { s₂ with heap := h₁, toks := s₂.toks + ([] : List (Str × Value)).length } →
      codeAny (model prog w) A (.compLoop (.ListComp elt [⟨.Name x px, iter, [], 0⟩] scope pos) 0 (.ref I) (.ref s₂.heap.objs.size) (compEnvC scope cl H2.objs.size env))
        (compPost (model prog w) A E none Q (.ref s₂.heap.objs.size) H2.objs.size) s₃ := by
    rintro s₃ rfl
    refine codeAny_compLoop_list (fun k s' => s' = { s₂ with heap := h₁, toks := s₂.toks + ([] : List (Str × Value)).length }) ?_ 0 rfl
    rintro k s' rfl
    refine W.item 0 _ _ _ (by simp) hst₁ fun v h₂ tk₂ hPv hst₂ hk₂ => ?_
    obtain rfl : v0 = v := by simpa using hPv
    refine wpAny_assign_Name (wpAny_storeName_local (lookup_relabel_local hx) (hns₁.at' fun o e => hk₂ _ o (by simpa using Ne.symm hCI) e) (fun h₃ hn₃ hs₃ => ?_) (by simp [compEnvC, relabel, hkind]))
    have hst₃ : h₃.IsTupleIter I ax (0 + 1) ∧ h₃.IsTuple ax (v0 :: its).toArray := W.frame _ _ _ hst₂ fun b hb o e => hs₃.extBut b o (fun q => hCf (by have q' : b = H2.objs.size := q; rw [← q']; exact hb)) e
    obtain ⟨oI, heI, hoI⟩ := hst₃.1
    obtain ⟨oC, heC, hoC⟩ := ns_obj hn₃
    have F₃ : Fr g L h₃ m := (fr_but (F2.keeps old) hk₂ hIL hI₀).change hs₃ hCL hC₀
    have N₂ : News g L h₂ ((s₂.heap.objs.size, lst []) :: news) := news_but N1 hk₂ fun p hp => by
      rcases List.mem_cons.mp hp with rfl | hp
      · exact Ne.symm hDI
      · exact (off3 p hp).1
    have N₃ : News g L h₃ ((I, oI) :: (H2.objs.size, oC) :: (s₂.heap.objs.size, lst []) :: news) := fun p hp => by
      rcases List.mem_cons.mp hp with rfl | hp
      · exact ⟨heI, Ne.symm hIL, hI₀⟩
      · rcases List.mem_cons.mp hp with rfl | hp
        · exact ⟨heC, hCL, hC₀⟩
        · have z := N₂ p hp
          refine ⟨hs₃.extBut _ _ ?_ z.1, z.2⟩
          rcases List.mem_cons.mp hp with rfl | hp
          · exact hDC
          · exact (off3 p hp).2.1
    have T : ∀ tk', wpAny (model prog w) A (eval elt (compEnvC scope cl H2.objs.size env)) (fun _ _ => False)
        (notedBy (model prog w) A (compEnvC scope cl H2.objs.size env) fun e s' => compPost (model prog w) A E none Q (.ref s₂.heap.objs.size) H2.objs.size (.error e) s') { s₂ with heap := h₃, toks := tk' } := fun tk' => by
      rw [hs2']
      refine turn h₃ I oI H2.objs.size oC s₂.heap.objs.size _ tk' _ hoC (by simp) F₃ N₃ off₀ ?_
      intro e h' tk'' G FG R U
      obtain ⟨B, a0, hB, hBG, hl', hfl⟩ := R
      have eN : noteFrame (.ref e) (compEnvC scope cl H2.objs.size env) = noteFrame (.ref e) env := rfl
      unfold notedBy
      rw [eN]
      refine wpAny_looks_onW hfr hf hfl fun h₄ hh₄ hu₄ => ?_
      have zC := hl' (H2.objs.size, oC) (List.mem_cons_of_mem _ List.mem_cons_self)
      have hCh₄ : h₄.get? H2.objs.size = some oC := hh₄.1 _ _ zC.1
      refine ⟨_, hoC.ns hCh₄, fun h₅ hs₅ cenv _ => ?_⟩
      have fa : FlyAny (hideAll B [H2.objs.size]) (env :: outer) e cls a0 h₅ := FlyAny.less ⟨hh₄.1, hh₄.2.1, hh₄.2.2.1, _, .inr ⟨_, rfl⟩, hh₄.2.2.2⟩ zC.1 hs₅
      refine passOn_any fa fun h₆ fa₆ u₆ => ?_
      have hne : ∀ {b o}, B.get? b = some o → b ≠ H2.objs.size → (hideAll B [H2.objs.size]).get? b = some o := fun hb hn => hideAll_get _ hb fun hm => hn (List.mem_singleton.mp hm)
      refine fin e h₆ _ G FG ⟨hideAll B [H2.objs.size], a0, fun b o q => hne (hB b o q) fun z => ?_, fun b o q nm => hne (hBG b o q nm) fun z => ?_, fun q hq => ?_, fa₆⟩ ?_
      · rw [z, zC.2.2] at q; cases q
      · rw [z, zC.2.1] at q; cases q
      · have y := hl' q (List.mem_cons_of_mem _ (List.mem_cons_of_mem _ (List.mem_cons_of_mem _ hq)))
        exact ⟨hne y.1 (off3 q hq).2.1, y.2⟩
      · refine Heap.UpToSlots.trans ?_ u₆
        intro b o q hn
        have hbC : b ≠ H2.objs.size := fun z => by rw [z, zC.2.1] at q; cases q
        obtain ⟨sl, hsl⟩ := (U.trans hu₄) b o q hn
        exact ⟨sl, hs₅.extBut b _ hbC hsl⟩
    exact wpAny_mono (T _) (fun _ _ x => x.elim) fun _ _ x => x
  exact codeAny_compStart_list (loop _ rfl) (W.self 0 _ _ _ hst₁ (loop _ rfl))
end
end
section
open PySem PySem.W PyProof.Rows PySem.Calls PySem.Spec
set_option maxRecDepth 100000
set_option maxHeartbeats 8000000
theorem outer_tag_ok (w : World) (news : Led) (x : Addr) (f : FrameV) (x0 : Addr) (xr : List Addr) (hf : IsFrm w news x f (x0 :: xr)) :
    Ctr w 331 4 30 [.ref x] news (fun R => ∀ D, (∀ q ∈ news, @LT.lt Nat _ q.1 D) → R ((D, tupObj []) :: news) (.ref x0)) := by
  k_with_none
  w_top off
  k_with "k_mem" => first | assumption | exact List.mem_cons_self | (refine List.mem_cons_of_mem _ ?_; k_extra "k_mem") | (refine List.mem_append_right _ ?_; k_extra "k_mem") | (refine List.mem_append_left _ ?_; k_extra "k_mem")
  k_with "k_all" => assumption
  k_with "ktr_room" => ((try simp only [depth_under_make, depth_under_kw, depth_in1, depth_deeper, depth_caller]); (try dsimp only [ktrTop]); first | exact room0 (by with_reducible assumption) | exact room1 (by with_reducible assumption) rfl | exact room2 (by with_reducible assumption) rfl | exact room3 (by with_reducible assumption) rfl | exact Nat.le_of_ble_eq_true rfl | omega)
  k_with "k_room" => ktr_room
  k_with "ktr_units" => ((try simp only [units_in1, units_deeper, Around.mark_units, units_caller]); (try dsimp only [ktrTop]); first | exact room0 (by with_reducible assumption) | exact room1 (by with_reducible assumption) rfl | exact room2 (by with_reducible assumption) rfl | exact room3 (by with_reducible assumption) rfl | exact Nat.le_of_ble_eq_true rfl | ((have hcL9 := cLine_is); omega))
  k_with "k_enter" => (refine' code_def ?k1_0 ?k2_0 ?k3_0 ?k4_0 ?k5_0 ?kA_0 ?kF_0 ?kK_0 ?k6_0 ?k7_0 ?k8_0 ?k9_0 ?kB_0 ?_ ?c2_0 ?c3_0 ?c4_0 ?c5_0; (case kA_0 => exact rfl); (case kF_0 => exact rfl); (case kK_0 => first | exact rfl | assumption); (case k1_0 => k_asm); (case k2_0 => k_asm); (case k3_0 => k_asm); (case k4_0 => k_asm); (case k5_0 => k_asm); (case k6_0 => k_is); (case k7_0 => k_is); (case k8_0 => k_room); (case k9_0 => first | exact BindsTo.of_eq rfl | exact binds_K (by k_in) rfl (by k_is) rfl rfl rfl | fail "k_enter: no rule for these arguments"); (case c5_0 => decide); (case kB_0 => exact locs rfl); (case c2_0 => exact rfl); (case c3_0 => exact rfl); (case c4_0 => exact rfl); k_whole; intro _ _ _ _ _ _ B' _ _; (try dsimp only); (try k_lift B'); (try k_fold))
  k_with "o call type:tuple" => (k_here; (with_reducible show wpAny _ _ (call (Value.type _) [Value.ref _]) _ _ _); k_dflt (refine call_tuple_tup (News.isTup (by k_asm) (by k_extra "k_mem")) ?_))
  k_with "o call type:bytes" => (k_here; (with_reducible show wpAny _ _ (call (Value.type _) [Value.bytes _ _]) _ _ _); refine call_bytes_same ?_)
  k_with "o call type:tuple" => (k_here; (with_reducible show wpAny _ _ (call (Value.type _) [Value.ref _]) _ _ _); k_dflt (refine' tupleOf_ys ?F_1 ?N_1 ?hm_1 ?hz_1 ?_; (case F_1 => k_asm); (case N_1 => k_asm); (case hm_1 => k_extra "k_mem"); (case hz_1 => first | assumption | exact Nat.le_of_ble_eq_true rfl); k_whole); intro _ _ _ _ _; (try k_sweep))
  k_with "o compareOp Eq ref ref" => (k_here; (with_reducible show wpAny _ _ (compareOp _ (Value.ref _) (Value.ref _)) _ _ _); k_dflt (refine' eq_tups_nil (by k_asm) ?ka_8 (by k_extra "k_mem") (by ktr_units) ?_; (case ka_8 => k_extra "k_mem")); (try simp only [reduceCtorEq, decide_false, decide_true, Bool.not_false, Bool.not_true]))
  k_with "o compareOp NotEq ref ref" => (k_here; (with_reducible show wpAny _ _ (compareOp _ (Value.ref _) (Value.ref _)) _ _ _); k_dflt (refine' ne_tups_nil (by k_asm) ?ka_9 (by k_extra "k_mem") (by ktr_units) ?_; (case ka_9 => k_extra "k_mem")); (try simp only [reduceCtorEq, decide_false, decide_true, Bool.not_false, Bool.not_true]))
  k_with "o subscriptTail" => (k_here; (with_reducible show wpAny _ _ (subscriptTail _ _ (Value.ref _) (Value.int 0 _)) _ _ _); k_dflt (refine item_ledT0 (News.isTup (by k_asm) (by k_extra "k_mem")) ?_))
  k_with "o subscriptTail" => (k_here; (with_reducible show wpAny _ _ (subscriptTail _ _ (Value.ref _) (Value.ref _)) _ _ _); k_dflt (refine' from_ledT1 ?F_10 ?N_10 ?ht_10 ?hz_10 ?_; (case F_10 => k_asm); (case N_10 => k_asm); (case ht_10 => k_extra "k_mem"); (case hz_10 => first | assumption | (simp only [List.length_map]; first | exact Nat.le_of_ble_eq_true rfl | omega))); intro _ _ _ _ l1; (try k_lt l1); (try (revert l1; intro _)); (try k_sweep))
  k_with "o binaryOp Add ref ref" => (k_here; (with_reducible show wpAny _ _ (binaryOp _ (Value.ref _) (Value.ref _)) _ _ _); k_dflt (refine' add_ledT1 ?F_11 ?N_11 ?ht_11 ?hb_11 ?hz_11 ?_; (case F_11 => k_asm); (case N_11 => k_asm); (case ht_11 => k_extra "k_mem"); (case hb_11 => k_extra "k_mem"); (case hz_11 => (simp only [List.length_map, List.length_nil]; first | exact Nat.le_of_ble_eq_true rfl | omega))); intro _ _ _ _ l1; (try k_lt l1); (try (revert l1; intro _)); (try k_sweep))
  k_with "o binaryOp Add ref ref" => (k_here; (with_reducible show wpAny _ _ (binaryOp _ (Value.ref _) (Value.ref _)) _ _ _); k_dflt (refine' add_ledT0 ?F_12 ?N_12 ?ht_12 ?hb_12 ?hz_12 ?_; (case F_12 => k_asm); (case N_12 => k_asm); (case ht_12 => k_extra "k_mem"); (case hb_12 => k_extra "k_mem"); (case hz_12 => (simp only [List.length_map, List.length_nil]; first | exact Nat.le_of_ble_eq_true rfl | omega))))
  k_with "tbn_conj" => first | exact abv_nil | assumption | exact abv_one (by assumption) | (refine abv_next (by first | assumption | exact And.left (by assumption) | omega) ?_; k_extra "tbn_conj") | exact abv_oneA (by first | assumption | exact And.right (by assumption) | exact And.right (And.right (by assumption))) | (refine abv_all (by assumption) ?_; k_extra "tbn_conj") | (refine abv_allA (by first | assumption | exact And.right (by assumption) | exact And.right (And.right (by assumption))) ?_; k_extra "tbn_conj") | (refine abv_app ?_ ?_ <;> k_extra "tbn_conj")
  k_with "o mem9" => (with_reducible first | exact List.mem_cons_self | (refine List.mem_cons_of_mem _ ?_; k_extra "o mem9") | (refine List.mem_append_right _ ?_; k_extra "o mem9") | (refine List.mem_append_left _ ?_; k_extra "o mem9") | assumption)
  k_with "o subv" => (with_reducible first | exact sub_rfl | exact sub_le | (refine sub_tl ?_; k_extra "o subv") | (refine sub_ri ?_; k_extra "o subv") | (refine sub_lf ?_; k_extra "o subv"))
  k_with "o sub9" => first | k_extra "o subv" | exact sub_nil | ((with_reducible refine sub_cons ?_ ?_); (k_extra "o mem9"); k_extra "o sub9") | ((with_reducible refine sub_app ?_ ?_); k_extra "o sub9"; k_extra "o sub9")
  k_with "ktd_rel" => first | assumption | (refine IsFrm.mono ?_ (by assumption); k_extra "o sub9") | (refine IsTag.mono ?_ (by assumption); k_extra "o sub9") | (refine TagsAt.mono ?_ (by assumption); k_extra "o sub9") | (refine RowsAt.mono ?_ (by assumption); k_extra "o sub9") | exact IsFrm.of (by k_extra "k_mem") (by k_extra "k_mem") (by k_extra "k_mem") | exact IsTag.of (by k_extra "k_mem") (by k_extra "k_mem")
  obtain ⟨dx, tu0, a, b, c, d, e, hx, hdx, htu⟩ := hf
  simp only [List.map_cons] at htu
  intro p loose mean mg mb dp un gd cn cs ad ccd cl outer A₀ base h₀ L m s Q E B F X N T hk hd' hu hret
  k_steps
  all_goals exact hret _ (by assumption) _ _ (by assumption) (by assumption)
section
theorem popped_ok (w : World) (news : Led) (x : Addr) (f : FrameV) (x0 : Addr) (xr : List Addr) (hf : IsFrm w news x f (x0 :: xr)) (hz : xr.length ≤ 4000) :
    Ctr w 338 10 80 [.ref x] news (fun R => ∀ tl x' tp, Abv news tl → IsFrm w (tl ++ news) x' { f with tp := tp } xr → R (tl ++ news) (.ref x')) := by
  w_top off
  obtain ⟨dx, tu0, a, b, c, d, e, hx, hdx, htu⟩ := hf
  have htu0 := htu
  simp only [List.map_cons] at htu
  intro p loose mean mg mb dp un gd cn cs ad ccd cl outer A₀ base h₀ L m s Q E B F X N T hk hd' hu hret
  k_steps
  all_goals
    refine' hret ((_, _) :: (_, _) :: (_, _) :: (_, _) :: []) _ _ ?e1 ?e2 _ _ ?e3 ?e4
    (case e4 => assumption)
    (case e3 => assumption)
    (case e2 => k_extra "ktd_rel")
    (case e1 => k_extra "tbn_conj")
theorem pushed0_ok (w : World) (news : Led) (x y : Addr) (f : FrameV) (hf : IsFrm w news x f []) :
    Ctr w 324 10 80 [.ref x, .ref y] news (fun R => ∀ tl x' tp, Abv news tl → IsFrm w (tl ++ news) x' { f with tp := tp } [y] → R (tl ++ news) (.ref x')) := by
  w_top off
  obtain ⟨dx, tu0, a, b, c, d, e, hx, hdx, htu⟩ := hf
  have htu0 := htu
  simp only [List.map_nil] at htu
  intro p loose mean mg mb dp un gd cn cs ad ccd cl outer A₀ base h₀ L m s Q E B F X N T hk hd' hu hret
  k_steps
  all_goals
    refine' hret ((_, _) :: (_, _) :: (_, _) :: []) _ _ ?e1 ?e2 _ _ ?e3 ?e4
    (case e4 => assumption)
    (case e3 => assumption)
    (case e2 => k_extra "ktd_rel")
    (case e1 => k_extra "tbn_conj")
theorem pushed1_ok (w : World) (news : Led) (x y : Addr) (f : FrameV) (x0 : Addr) (xr : List Addr) (hf : IsFrm w news x f (x0 :: xr)) (hz : xr.length ≤ 4000) :
    Ctr w 324 10 80 [.ref x, .ref y] news (fun R => ∀ tl x' tp, Abv news tl → IsFrm w (tl ++ news) x' { f with tp := tp } (y :: x0 :: xr) → R (tl ++ news) (.ref x')) := by
  w_top off
  obtain ⟨dx, tu0, a, b, c, d, e, hx, hdx, htu⟩ := hf
  have htu0 := htu
  simp only [List.map_cons] at htu
  intro p loose mean mg mb dp un gd cn cs ad ccd cl outer A₀ base h₀ L m s Q E B F X N T hk hd' hu hret
  k_steps
  all_goals
    refine' hret ((_, _) :: (_, _) :: (_, _) :: (_, _) :: []) _ _ ?e1 ?e2 _ _ ?e3 ?e4
    (case e4 => assumption)
    (case e3 => assumption)
    (case e2 => k_extra "ktd_rel")
    (case e1 => k_extra "tbn_conj")
end
end
section
open PySem PySem.W PyProof.Rows PySem.Calls PySem.Spec
set_option maxRecDepth 100000
set_option maxHeartbeats 8000000
section
theorem outer_vlan_ok (w : World) (news : Led) (x : Addr) (f : FrameV) (x0 : Addr) (xr : List Addr) (t : TagV) (hf : IsFrm w news x f (x0 :: xr)) (ht : IsTag w news x0 t) :
    Ctr w 345 6 50 [.ref x] news (fun R => ∀ tl, Abv news tl → R (tl ++ news) (.int t.v t.tv)) := by
  k_with_none
  w_top off
  k_with "k_mem" => first | assumption | exact List.mem_cons_self | (refine List.mem_cons_of_mem _ ?_; k_extra "k_mem") | (refine List.mem_append_right _ ?_; k_extra "k_mem") | (refine List.mem_append_left _ ?_; k_extra "k_mem")
  k_with "k_all" => assumption
  k_with "ktr_room" => ((try simp only [depth_under_make, depth_under_kw, depth_in1, depth_deeper, depth_caller]); (try dsimp only [ktrTop]); first | exact room0 (by with_reducible assumption) | exact room1 (by with_reducible assumption) rfl | exact room2 (by with_reducible assumption) rfl | exact room3 (by with_reducible assumption) rfl | exact Nat.le_of_ble_eq_true rfl | lia | omega)
  k_with "k_room" => ktr_room
  k_with "ktr_units" => ((try simp only [units_in1, units_deeper, Around.mark_units, units_caller]); (try dsimp only [ktrTop]); first | exact room0 (by with_reducible assumption) | exact room1 (by with_reducible assumption) rfl | exact room2 (by with_reducible assumption) rfl | exact room3 (by with_reducible assumption) rfl | exact Nat.le_of_ble_eq_true rfl | ((have hcL9 := cLine_is); (first | lia | omega)))
  k_with "k_enter" => (refine' code_def ?k1_0 ?k2_0 ?k3_0 ?k4_0 ?k5_0 ?kA_0 ?kF_0 ?kK_0 ?k6_0 ?k7_0 ?k8_0 ?k9_0 ?kB_0 ?_ ?c2_0 ?c3_0 ?c4_0 ?c5_0; (case kA_0 => exact rfl); (case kF_0 => exact rfl); (case kK_0 => first | exact rfl | assumption); (case k1_0 => k_asm); (case k2_0 => k_asm); (case k3_0 => k_asm); (case k4_0 => k_asm); (case k5_0 => k_asm); (case k6_0 => k_is); (case k7_0 => k_is); (case k8_0 => k_room); (case k9_0 => first | exact BindsTo.of_eq rfl | exact binds_K (by k_in) rfl (by k_is) rfl rfl rfl | fail "k_enter: no rule for these arguments"); (case c5_0 => decide); (case kB_0 => exact locs rfl); (case c2_0 => exact rfl); (case c3_0 => exact rfl); (case c4_0 => exact rfl); k_whole; intro _ _ _ _ _ _ B' _ _; (try dsimp only); (try k_lift B'); (try k_fold))
  k_with "o call type:tuple" => (k_here; (with_reducible show wpAny _ _ (call (Value.type _) [Value.ref _]) _ _ _); k_dflt (refine call_tuple_tup (News.isTup (by k_asm) (by k_extra "k_mem")) ?_))
  k_with "o call type:bytes" => (k_here; (with_reducible show wpAny _ _ (call (Value.type _) [Value.bytes _ _]) _ _ _); refine call_bytes_same ?_)
  k_with "o call type:tuple" => (k_here; (with_reducible show wpAny _ _ (call (Value.type _) [Value.ref _]) _ _ _); k_dflt (refine' tupleOf_ys ?F_1 ?N_1 ?hm_1 ?hz_1 ?_; (case F_1 => k_asm); (case N_1 => k_asm); (case hm_1 => k_extra "k_mem"); (case hz_1 => first | assumption | exact Nat.le_of_ble_eq_true rfl); k_whole); intro _ _ _ _ _; (try k_sweep))
  k_with "o compareOp Eq ref ref" => (k_here; (with_reducible show wpAny _ _ (compareOp _ (Value.ref _) (Value.ref _)) _ _ _); k_dflt (refine' eq_tups_nil (by k_asm) ?ka_8 (by k_extra "k_mem") (by ktr_units) ?_; (case ka_8 => k_extra "k_mem")); (try simp only [reduceCtorEq, decide_false, decide_true, Bool.not_false, Bool.not_true]))
  k_with "o compareOp NotEq ref ref" => (k_here; (with_reducible show wpAny _ _ (compareOp _ (Value.ref _) (Value.ref _)) _ _ _); k_dflt (refine' ne_tups_nil (by k_asm) ?ka_9 (by k_extra "k_mem") (by ktr_units) ?_; (case ka_9 => k_extra "k_mem")); (try simp only [reduceCtorEq, decide_false, decide_true, Bool.not_false, Bool.not_true]))
  k_with "o subscriptTail" => (k_here; (with_reducible show wpAny _ _ (subscriptTail _ _ (Value.ref _) (Value.int 0 _)) _ _ _); k_dflt (refine item_ledT0 (News.isTup (by k_asm) (by k_extra "k_mem")) ?_))
  k_with "o subscriptTail" => (k_here; (with_reducible show wpAny _ _ (subscriptTail _ _ (Value.ref _) (Value.ref _)) _ _ _); k_dflt (refine' from_ledT1 ?F_13 ?N_13 ?ht_13 ?hz_13 ?_; (case F_13 => k_asm); (case N_13 => k_asm); (case ht_13 => k_extra "k_mem"); (case hz_13 => first | assumption | (simp only [List.length_map]; first | exact Nat.le_of_ble_eq_true rfl | lia | omega))); intro _ _ _ _ l1; (try k_lt l1); (try (revert l1; intro _)); (try k_sweep))
  k_with "o binaryOp Add ref ref" => (k_here; (with_reducible show wpAny _ _ (binaryOp _ (Value.ref _) (Value.ref _)) _ _ _); k_dflt (refine' add_ledTm ?F_14 ?N_14 ?ht_14 ?hb_14 ?hz_14 ?_; (case F_14 => k_asm); (case N_14 => k_asm); (case ht_14 => k_extra "k_mem"); (case hb_14 => k_extra "k_mem"); (case hz_14 => (simp only [List.length_map, List.length_nil]; first | exact Nat.le_of_ble_eq_true rfl | lia | omega))); intro _ _ _ _ _ _ _; (try k_sweep))
  k_with "o binaryOp Add ref ref" => (k_here; (with_reducible show wpAny _ _ (binaryOp _ (Value.ref _) (Value.ref _)) _ _ _); k_dflt (refine' add_ledT1 ?F_15 ?N_15 ?ht_15 ?hb_15 ?hz_15 ?_; (case F_15 => k_asm); (case N_15 => k_asm); (case ht_15 => k_extra "k_mem"); (case hb_15 => k_extra "k_mem"); (case hz_15 => (simp only [List.length_map, List.length_nil]; first | exact Nat.le_of_ble_eq_true rfl | lia | omega))); intro _ _ _ _ l1; (try k_lt l1); (try (revert l1; intro _)); (try k_sweep))
  k_with "o binaryOp Add ref ref" => (k_here; (with_reducible show wpAny _ _ (binaryOp _ (Value.ref _) (Value.ref _)) _ _ _); k_dflt (refine' add_ledT0 ?F_16 ?N_16 ?ht_16 ?hb_16 ?hz_16 ?_; (case F_16 => k_asm); (case N_16 => k_asm); (case ht_16 => k_extra "k_mem"); (case hb_16 => k_extra "k_mem"); (case hz_16 => (simp only [List.length_map, List.length_nil]; first | exact Nat.le_of_ble_eq_true rfl | lia | omega))))
  k_with "tbn_conj" => first | exact abv_nil | assumption | exact abv_one (by assumption) | (refine abv_next (by first | assumption | exact And.left (by assumption) | lia | omega) ?_; k_extra "tbn_conj") | exact abv_oneA (by first | assumption | exact And.right (by assumption) | exact And.right (And.right (by assumption))) | (refine abv_all (by assumption) ?_; k_extra "tbn_conj") | (refine abv_allA (by first | assumption | exact And.right (by assumption) | exact And.right (And.right (by assumption))) ?_; k_extra "tbn_conj") | (refine abv_allS (by assumption) (by simp only [List.cons_append, List.append_assoc, List.nil_append]) ?_; k_extra "tbn_conj") | (refine abv_app ?_ ?_ <;> k_extra "tbn_conj")
  k_with "o mem9" => (with_reducible first | exact List.mem_cons_self | (refine List.mem_cons_of_mem _ ?_; k_extra "o mem9") | (refine List.mem_append_right _ ?_; k_extra "o mem9") | (refine List.mem_append_left _ ?_; k_extra "o mem9") | assumption)
  k_with "o subv" => (with_reducible first | exact sub_rfl | exact sub_le | (refine sub_tl ?_; k_extra "o subv") | (refine sub_ri ?_; k_extra "o subv") | (refine sub_lf ?_; k_extra "o subv"))
  k_with "o sub9" => first | k_extra "o subv" | exact sub_nil | ((with_reducible refine sub_cons ?_ ?_); (k_extra "o mem9"); k_extra "o sub9") | ((with_reducible refine sub_app ?_ ?_); k_extra "o sub9"; k_extra "o sub9")
  k_with "ktd_rel" => first | assumption | (refine IsFrm.mono ?_ (by assumption); k_extra "o sub9") | (refine IsTag.mono ?_ (by assumption); k_extra "o sub9") | (refine TagsAt.mono ?_ (by assumption); k_extra "o sub9") | (refine RowsAt.mono ?_ (by assumption); k_extra "o sub9") | exact IsFrm.of (by k_extra "k_mem") (by k_extra "k_mem") (by k_extra "k_mem") | exact IsTag.of (by k_extra "k_mem") (by k_extra "k_mem")
  k_with "o call ref" => (k_here; (with_reducible show wpAny _ _ (call (Value.ref 317) _) _ _ _); k_dflt (refine' Ctr.use (with_tags_ok _ _ _ _ _ _ _ ?kf_17 ?kc_17) ?k1_17 ?k2_17 ?k3_17 ?k4_17 ?k5_17 ?kK_17 ?kd_17 ?ku_17 ?_; (case k1_17 => k_asm); (case k2_17 => k_asm); (case k3_17 => k_asm); (case k4_17 => k_asm); (case k5_17 => k_asm); (case kK_17 => first | exact rfl | assumption); (case kd_17 => ktr_room); (case ku_17 => ktr_units); (case kf_17 => k_extra "ktd_rel"); (case kc_17 => k_extra "k_mem"); k_whole; intros; (try dsimp only); (try k_sweep); (try k_fold)))
  obtain ⟨dt, ta, tb, tc, te, hx0, hdt⟩ := ht
  obtain ⟨dx, tu0, a, b, c, d, e, hx, hdx, htu⟩ := hf
  have htu0 := htu
  simp only [List.map_cons] at htu
  intro p loose mean mg mb dp un gd cn cs ad ccd cl outer A₀ base h₀ L m s Q E B F X N T hk hd' hu hret
  k_steps
  all_goals
    refine' hret ((_, _) :: []) ?e1 _ _ ?e3 ?e4
    (case e4 => assumption)
    (case e3 => assumption)
    (case e1 => k_extra "tbn_conj")
theorem priority_of_ok (w : World) (news : Led) (x : Addr) (f : FrameV) (x0 : Addr) (xr : List Addr) (t : TagV) (hf : IsFrm w news x f (x0 :: xr)) (ht : IsTag w news x0 t) :
    Ctr w 352 6 50 [.ref x] news (fun R => ∀ tl, Abv news tl → R (tl ++ news) (.int t.p t.tp)) := by
  w_top off
  obtain ⟨dt, ta, tb, tc, te, hx0, hdt⟩ := ht
  obtain ⟨dx, tu0, a, b, c, d, e, hx, hdx, htu⟩ := hf
  have htu0 := htu
  simp only [List.map_cons] at htu
  intro p loose mean mg mb dp un gd cn cs ad ccd cl outer A₀ base h₀ L m s Q E B F X N T hk hd' hu hret
  k_steps
  all_goals
    refine' hret ((_, _) :: []) ?e1 _ _ ?e3 ?e4
    (case e4 => assumption)
    (case e3 => assumption)
    (case e1 => k_extra "tbn_conj")
theorem outer_vlan0_ok (w : World) (news : Led) (x : Addr) (f : FrameV) (hf : IsFrm w news x f []) :
    Ctr w 345 6 50 [.ref x] news (fun R => ∀ tl u, Abv news tl → R (tl ++ news) (.int 0 u)) := by
  w_top off
  obtain ⟨dx, tu0, a, b, c, d, e, hx, hdx, htu⟩ := hf
  simp only [List.map_nil] at htu
  intro p loose mean mg mb dp un gd cn cs ad ccd cl outer A₀ base h₀ L m s Q E B F X N T hk hd' hu hret
  k_steps
  all_goals
    refine' hret ((_, _) :: []) _ ?e1 _ _ ?e3 ?e4
    (case e4 => assumption)
    (case e3 => assumption)
    (case e1 => k_extra "tbn_conj")
theorem priority_of0_ok (w : World) (news : Led) (x : Addr) (f : FrameV) (hf : IsFrm w news x f []) :
    Ctr w 352 6 50 [.ref x] news (fun R => ∀ tl u, Abv news tl → R (tl ++ news) (.int 0 u)) := by
  w_top off
  obtain ⟨dx, tu0, a, b, c, d, e, hx, hdx, htu⟩ := hf
  simp only [List.map_nil] at htu
  intro p loose mean mg mb dp un gd cn cs ad ccd cl outer A₀ base h₀ L m s Q E B F X N T hk hd' hu hret
  k_steps
  all_goals
    refine' hret ((_, _) :: []) _ ?e1 _ _ ?e3 ?e4
    (case e4 => assumption)
    (case e3 => assumption)
    (case e1 => k_extra "tbn_conj")
theorem with_vlan_ok (w : World) (news : Led) (x : Addr) (f : FrameV) (x0 : Addr) (xr : List Addr) (t : TagV) (hf : IsFrm w news x f (x0 :: xr)) (ht : IsTag w news x0 t) (hz : xr.length ≤ 4000) (v : Int) (tv : Tok) :
    Ctr w 359 10 90 [.ref x, .int v tv] news (fun R => ∀ tl x' y tp, Abv news tl → IsFrm w (tl ++ news) x' { f with tp := tp } (y :: xr) → IsTag w (tl ++ news) y { t with v := v, tv := tv } → R (tl ++ news) (.ref x')) := by
  w_top off
  obtain ⟨dt, ta, tb, tc, te, hx0, hdt⟩ := ht
  obtain ⟨dx, tu0, a, b, c, d, e, hx, hdx, htu⟩ := hf
  have htu0 := htu
  simp only [List.map_cons] at htu
  intro p loose mean mg mb dp un gd cn cs ad ccd cl outer A₀ base h₀ L m s Q E B F X N T hk hd' hu hret
  k_steps
  all_goals
    refine' hret ((_, _) :: (_, _) :: (_ ++ (_, _) :: (_, _) :: (_, _) :: (_, _) :: (_, _) :: [])) _ _ _ ?e1 ?e2 ?e5 _ _ ?e3 ?e4
    (case e4 => (simp only [List.cons_append, List.append_assoc, List.nil_append]; assumption))
    (case e3 => assumption)
    (case e2 => (simp only [List.cons_append, List.append_assoc, List.nil_append]; k_extra "ktd_rel"))
    (case e5 => (simp only [List.cons_append, List.append_assoc, List.nil_append]; k_extra "ktd_rel"))
    (case e1 => k_extra "tbn_conj")
theorem with_priority_ok (w : World) (news : Led) (x : Addr) (f : FrameV) (x0 : Addr) (xr : List Addr) (t : TagV) (hf : IsFrm w news x f (x0 :: xr)) (ht : IsTag w news x0 t) (hz : xr.length ≤ 4000) (v : Int) (tv : Tok) :
    Ctr w 366 10 90 [.ref x, .int v tv] news (fun R => ∀ tl x' y tp, Abv news tl → IsFrm w (tl ++ news) x' { f with tp := tp } (y :: xr) → IsTag w (tl ++ news) y { t with p := v, tp := tv } → R (tl ++ news) (.ref x')) := by
  w_top off
  obtain ⟨dt, ta, tb, tc, te, hx0, hdt⟩ := ht
  obtain ⟨dx, tu0, a, b, c, d, e, hx, hdx, htu⟩ := hf
  have htu0 := htu
  simp only [List.map_cons] at htu
  intro p loose mean mg mb dp un gd cn cs ad ccd cl outer A₀ base h₀ L m s Q E B F X N T hk hd' hu hret
  k_steps
  all_goals
    refine' hret ((_, _) :: (_, _) :: (_ ++ (_, _) :: (_, _) :: (_, _) :: (_, _) :: (_, _) :: [])) _ _ _ ?e1 ?e2 ?e5 _ _ ?e3 ?e4
    (case e4 => (simp only [List.cons_append, List.append_assoc, List.nil_append]; assumption))
    (case e3 => assumption)
    (case e2 => (simp only [List.cons_append, List.append_assoc, List.nil_append]; k_extra "ktd_rel"))
    (case e5 => (simp only [List.cons_append, List.append_assoc, List.nil_append]; k_extra "ktd_rel"))
    (case e1 => k_extra "tbn_conj")
end
end
section
open PySem PySem.W PyProof.Rows PySem.Calls PySem.Spec
set_option maxRecDepth 100000
set_option maxHeartbeats 8000000
section
theorem law_frame_ok (w : World) (news : Led) (rl : Addr) (c : Nat) (ys : List Addr) (ts : List TagV) (hrl : (rl, W.listOf (ys.map Value.ref).toArray c) ∈ news) (hrows : RowsAt news ys ts) (hn : ts.length ≤ 5) (pb : Array UInt8) (pt : Tok) :
    Ctr w 399 8 80 [.ref rl, .bytes pb pt] news (fun R => ∀ tl x tt ts' tk tp xs, Abv news tl → IsFrm w (tl ++ news) x ⟨7, tt, 9, ts', 2054, tk, pb, tp⟩ xs → TagsAt w (tl ++ news) xs ts → R (tl ++ news) (.ref x)) := by
  k_with_none
  w_top off
  k_with "k_mem" => first | assumption | exact List.mem_cons_self | (refine List.mem_cons_of_mem _ ?_; k_extra "k_mem") | (refine List.mem_append_right _ ?_; k_extra "k_mem") | (refine List.mem_append_left _ ?_; k_extra "k_mem")
  k_with "k_all" => assumption
  k_with "ktr_room" => ((try simp only [depth_under_make, depth_under_kw, depth_in1, depth_deeper, depth_caller]); (try dsimp only [ktrTop]); first | exact room0 (by with_reducible assumption) | exact room1 (by with_reducible assumption) rfl | exact room2 (by with_reducible assumption) rfl | exact room3 (by with_reducible assumption) rfl | exact Nat.le_of_ble_eq_true rfl | lia | omega)
  k_with "k_room" => ktr_room
  k_with "ktr_units" => ((try simp only [units_in1, units_deeper, Around.mark_units, units_caller]); (try dsimp only [ktrTop]); first | exact room0 (by with_reducible assumption) | exact room1 (by with_reducible assumption) rfl | exact room2 (by with_reducible assumption) rfl | exact room3 (by with_reducible assumption) rfl | exact Nat.le_of_ble_eq_true rfl | ((have hcL9 := cLine_is); (first | lia | omega)))
  k_with "k_enter" => (refine' code_def ?k1_0 ?k2_0 ?k3_0 ?k4_0 ?k5_0 ?kA_0 ?kF_0 ?kK_0 ?k6_0 ?k7_0 ?k8_0 ?k9_0 ?kB_0 ?_ ?c2_0 ?c3_0 ?c4_0 ?c5_0; (case kA_0 => exact rfl); (case kF_0 => exact rfl); (case kK_0 => first | exact rfl | assumption); (case k1_0 => k_asm); (case k2_0 => k_asm); (case k3_0 => k_asm); (case k4_0 => k_asm); (case k5_0 => k_asm); (case k6_0 => k_is); (case k7_0 => k_is); (case k8_0 => k_room); (case k9_0 => first | exact BindsTo.of_eq rfl | exact binds_K (by k_in) rfl (by k_is) rfl rfl rfl | fail "k_enter: no rule for these arguments"); (case c5_0 => decide); (case kB_0 => exact locs rfl); (case c2_0 => exact rfl); (case c3_0 => exact rfl); (case c4_0 => exact rfl); k_whole; intro _ _ _ _ _ _ B' _ _; (try dsimp only); (try k_lift B'); (try k_fold))
  k_with "o call type:tuple" => (k_here; (with_reducible show wpAny _ _ (call (Value.type _) [Value.ref _]) _ _ _); k_dflt (refine call_tuple_tup (News.isTup (by k_asm) (by k_extra "k_mem")) ?_))
  k_with "o call type:bytes" => (k_here; (with_reducible show wpAny _ _ (call (Value.type _) [Value.bytes _ _]) _ _ _); refine call_bytes_same ?_)
  k_with "o call type:tuple" => (k_here; (with_reducible show wpAny _ _ (call (Value.type _) [Value.ref _]) _ _ _); k_dflt (refine' tupleOf_ys ?F_18 ?N_18 ?hm_18 ?hz_18 ?_; (case F_18 => k_asm); (case N_18 => k_asm); (case hm_18 => k_extra "k_mem"); (case hz_18 => first | assumption | exact Nat.le_of_ble_eq_true rfl); k_whole); intro _ _ _ _ l1; (try k_lt l1); (try (revert l1; intro _)); (try k_sweep))
  k_with "o compareOp Eq ref ref" => (k_here; (with_reducible show wpAny _ _ (compareOp _ (Value.ref _) (Value.ref _)) _ _ _); k_dflt (refine' eq_tups_nil (by k_asm) ?ka_8 (by k_extra "k_mem") (by ktr_units) ?_; (case ka_8 => k_extra "k_mem")); (try simp only [reduceCtorEq, decide_false, decide_true, Bool.not_false, Bool.not_true]))
  k_with "o compareOp NotEq ref ref" => (k_here; (with_reducible show wpAny _ _ (compareOp _ (Value.ref _) (Value.ref _)) _ _ _); k_dflt (refine' ne_tups_nil (by k_asm) ?ka_9 (by k_extra "k_mem") (by ktr_units) ?_; (case ka_9 => k_extra "k_mem")); (try simp only [reduceCtorEq, decide_false, decide_true, Bool.not_false, Bool.not_true]))
  k_with "o subscriptTail" => (k_here; (with_reducible show wpAny _ _ (subscriptTail _ _ (Value.ref _) (Value.int 0 _)) _ _ _); k_dflt (refine item_ledT0 (News.isTup (by k_asm) (by k_extra "k_mem")) ?_))
  k_with "o subscriptTail" => (k_here; (with_reducible show wpAny _ _ (subscriptTail _ _ (Value.ref _) (Value.ref _)) _ _ _); k_dflt (refine' from_ledT1 ?F_13 ?N_13 ?ht_13 ?hz_13 ?_; (case F_13 => k_asm); (case N_13 => k_asm); (case ht_13 => k_extra "k_mem"); (case hz_13 => first | assumption | (simp only [List.length_map]; first | exact Nat.le_of_ble_eq_true rfl | lia | omega))); intro _ _ _ _ l1; (try k_lt l1); (try (revert l1; intro _)); (try k_sweep))
  k_with "o binaryOp Add ref ref" => (k_here; (with_reducible show wpAny _ _ (binaryOp _ (Value.ref _) (Value.ref _)) _ _ _); k_dflt (refine' add_ledTm ?F_14 ?N_14 ?ht_14 ?hb_14 ?hz_14 ?_; (case F_14 => k_asm); (case N_14 => k_asm); (case ht_14 => k_extra "k_mem"); (case hb_14 => k_extra "k_mem"); (case hz_14 => (simp only [List.length_map, List.length_nil]; first | exact Nat.le_of_ble_eq_true rfl | lia | omega))); intro _ _ _ _ _ _ _; (try k_sweep))
  k_with "o binaryOp Add ref ref" => (k_here; (with_reducible show wpAny _ _ (binaryOp _ (Value.ref _) (Value.ref _)) _ _ _); k_dflt (refine' add_ledT1 ?F_15 ?N_15 ?ht_15 ?hb_15 ?hz_15 ?_; (case F_15 => k_asm); (case N_15 => k_asm); (case ht_15 => k_extra "k_mem"); (case hb_15 => k_extra "k_mem"); (case hz_15 => (simp only [List.length_map, List.length_nil]; first | exact Nat.le_of_ble_eq_true rfl | lia | omega))); intro _ _ _ _ l1; (try k_lt l1); (try (revert l1; intro _)); (try k_sweep))
  k_with "o binaryOp Add ref ref" => (k_here; (with_reducible show wpAny _ _ (binaryOp _ (Value.ref _) (Value.ref _)) _ _ _); k_dflt (refine' add_ledT0 ?F_16 ?N_16 ?ht_16 ?hb_16 ?hz_16 ?_; (case F_16 => k_asm); (case N_16 => k_asm); (case ht_16 => k_extra "k_mem"); (case hb_16 => k_extra "k_mem"); (case hz_16 => (simp only [List.length_map, List.length_nil]; first | exact Nat.le_of_ble_eq_true rfl | lia | omega))))
  k_with "tbn_conj" => first | exact abv_nil | assumption | exact abv_one (by assumption) | (refine abv_next (by first | assumption | exact And.left (by assumption) | lia | omega) ?_; k_extra "tbn_conj") | exact abv_oneA (by first | assumption | exact And.right (by assumption) | exact And.right (And.right (by assumption))) | (refine abv_all (by assumption) ?_; k_extra "tbn_conj") | (refine abv_allA (by first | assumption | exact And.right (by assumption) | exact And.right (And.right (by assumption))) ?_; k_extra "tbn_conj") | (refine abv_allS (by assumption) (by simp only [List.cons_append, List.append_assoc, List.nil_append]) ?_; k_extra "tbn_conj") | (refine abv_app ?_ ?_ <;> k_extra "tbn_conj")
  k_with "o mem9" => (with_reducible first | exact List.mem_cons_self | (refine List.mem_cons_of_mem _ ?_; k_extra "o mem9") | (refine List.mem_append_right _ ?_; k_extra "o mem9") | (refine List.mem_append_left _ ?_; k_extra "o mem9") | assumption)
  k_with "o subv" => (with_reducible first | exact sub_rfl | exact sub_le | (refine sub_tl ?_; k_extra "o subv") | (refine sub_ri ?_; k_extra "o subv") | (refine sub_lf ?_; k_extra "o subv"))
  k_with "o sub9" => first | k_extra "o subv" | exact sub_nil | ((with_reducible refine sub_cons ?_ ?_); (k_extra "o mem9"); k_extra "o sub9") | ((with_reducible refine sub_app ?_ ?_); k_extra "o sub9"; k_extra "o sub9")
  k_with "ktd_rel" => first | assumption | (refine IsFrm.mono ?_ (by assumption); k_extra "o sub9") | (refine IsTag.mono ?_ (by assumption); k_extra "o sub9") | (refine TagsAt.mono ?_ (by assumption); k_extra "o sub9") | (refine RowsAt.mono ?_ (by assumption); k_extra "o sub9") | exact IsFrm.of (by k_extra "k_mem") (by k_extra "k_mem") (by k_extra "k_mem") | exact IsTag.of (by k_extra "k_mem") (by k_extra "k_mem")
  k_with "o call ref" => (k_here; (with_reducible show wpAny _ _ (call (Value.ref 230) _) _ _ _); k_dflt (refine' Ctr.use (tag_new _ _ ⟨_, _, _, _, _, _, _⟩) ?k1_19 ?k2_19 ?k3_19 ?k4_19 ?k5_19 ?kK_19 ?kd_19 ?ku_19 ?_; (case k1_19 => k_asm); (case k2_19 => k_asm); (case k3_19 => k_asm); (case k4_19 => k_asm); (case k5_19 => k_asm); (case kK_19 => first | exact rfl | assumption); (case kd_19 => ktr_room); (case ku_19 => ktr_units); k_whole; intros; (try dsimp only); (try k_sweep); (try k_fold)))
  k_with "o eval ListComp" => (k_here; k_dflt (refine LCg.ListComp_U (by k_asm) (by rfl) (by decide) (by rfl) (by decide) (by rfl) ?_))
  intro p loose mean mg mb dp un gd cn cs ad ccd cl outer A₀ base h₀ L m s Q E B F X N T hk hd' hu hret
  have hlen : (ys.map Value.ref).toArray.size ≤ sizeLine := by rw [List.size_toArray, List.length_map, hrows.length, sizeLine_eq]; (first | lia | omega)
  k_steps
  refine LCg.CompSrc.ledger rfl (by k_asm) (by k_asm) hrl hlen (fun g => compRest_inv (n := (ys.map Value.ref).toArray.size) (fun i vs nw => ∃ (xas : List Addr) (tl : Led), vs = xas.map .ref ∧ nw = tl ++ news ∧ Abv news tl ∧ TagsAt w nw xas (ts.take i)) ?_ ?_ _ 0 [] _ (Nat.zero_add _) ⟨[], [], rfl, rfl, abv_nil, trivial⟩)
  · rintro i vs nw v R hi ⟨xas, tl, rfl, rfl, hab, htags⟩ hv hR I oI C oC D m₂ h tk E' hNs hx2 F2 N2 off ne
    obtain ⟨yt, hyt, rfl⟩ : ∃ yt, ys[i]? = some yt ∧ Value.ref yt = v := by simpa using hv
    obtain ⟨t, hti, hrow⟩ := hrows.get hyt
    k_steps
    rename_i x' dx' a b c e h1 h2 h' tk' F' N'
    refine compEnd_app [_, _] F' N' (abv_next h2 (abv_one h1)) off (.inr ⟨_, List.mem_append_right [_, _] (List.mem_append_right tl hrl), rfl, _, rfl⟩) (hR _ _ ⟨xas ++ [x'], (x', instObj 230 dx') :: (dx', tagDict w t a b c e) :: tl, by simp, rfl, ?_, ?_⟩)
    · exact abv_next h2 (abv_all (fun q hq => h1 q (by simp only [List.mem_cons]; exact .inr (.inr (.inr hq)))) hab)
    · rw [take_snoc hti]
      exact TagsAt.snoc (.of (.head _) (.tail _ (.head _))) (htags.mono fun q hq => by simp only [List.cons_append, List.mem_cons]; exact .inr (.inr hq))
  · rintro vs nw ⟨xas, tl, rfl, rfl, hab, htags⟩
    have hz9 : (xas.map Value.ref).length ≤ 16384 := by
      have := htags.length
      rw [List.length_take] at this
      rw [List.length_map]; (first | lia | omega)
    k_steps
    have ht9 : ts.take (ys.map Value.ref).toArray.size = ts := by rw [List.size_toArray, List.length_map, hrows.length]; simp
    rw [ht9] at htags
    refine' hret ((_, _) :: (_, _) :: (_, _) :: tl) _ _ _ _ _ _ ?e1 ?e2 ?e5 _ _ ?e3 (news_drop4 ?e4)
    (case e4 => assumption)
    (case e3 => assumption)
    (case e2 => k_extra "ktd_rel")
    (case e5 => exact htags.mono fun q hq => by simp only [List.cons_append, List.mem_cons]; exact .inr (.inr (.inr hq)))
    (case e1 => k_extra "tbn_conj")
end
end
section
open PySem PySem.W PyProof.Rows PySem.Calls PySem.Spec
set_option maxRecDepth 100000
set_option maxHeartbeats 8000000
section
section
theorem crc32_ok (w : World) (news : Led) (b : Array UInt8) (tb : Tok) (ks : List Int) (hk9 : KBw.bInts b = ks) (hz : ks.length ≤ 2000) :
    Ctr w 160 5 30 [.bytes b tb] news (fun R => ∀ t, R news (.int (crcF ks) t)) := by
  k_with_none
  w_top off
  k_with "k_mem" => first | assumption | exact List.mem_cons_self | (refine List.mem_cons_of_mem _ ?_; k_extra "k_mem") | (refine List.mem_append_right _ ?_; k_extra "k_mem") | (refine List.mem_append_left _ ?_; k_extra "k_mem")
  k_with "k_all" => assumption
  k_with "ktr_room" => ((try simp only [depth_under_make, depth_under_kw, depth_in1, depth_deeper, depth_caller]); (try dsimp only [ktrTop]); first | exact room0 (by with_reducible assumption) | exact room1 (by with_reducible assumption) rfl | exact room2 (by with_reducible assumption) rfl | exact room3 (by with_reducible assumption) rfl | exact Nat.le_of_ble_eq_true rfl | lia | omega)
  k_with "k_room" => ktr_room
  k_with "ktr_units" => ((try simp only [units_in1, units_deeper, Around.mark_units, units_caller]); (try dsimp only [ktrTop]); first | exact room0 (by with_reducible assumption) | exact room1 (by with_reducible assumption) rfl | exact room2 (by with_reducible assumption) rfl | exact room3 (by with_reducible assumption) rfl | exact Nat.le_of_ble_eq_true rfl | ((have hcL9 := cLine_is); (first | lia | omega)))
  k_with "k_enter" => (refine' code_defC ?k1_20 ?k2_20 ?k3_20 ?k4_20 ?k5_20 ?kA_20 ?kF_20 ?kK_20 ?k6_20 ?k7_20 ?k8_20 ?k9_20 ?kB_20 ?kD_20 ?_ ?c2_20 ?c3_20 ?c4_20; (case kA_20 => exact rfl); (case kF_20 => exact rfl); (case kK_20 => first | exact rfl | assumption); (case k1_20 => k_asm); (case k2_20 => k_asm); (case k3_20 => k_asm); (case k4_20 => k_asm); (case k5_20 => k_asm); (case k6_20 => k_is); (case k7_20 => k_is); (case k8_20 => k_room); (case k9_20 => first | exact BindsTo.of_eq rfl | exact binds_K (by k_in) rfl (by k_is) rfl rfl rfl | fail "k_enter: no rule for these arguments"); (case kB_20 => exact rfl); (case kD_20 => decide +kernel); (case c2_20 => exact rfl); (case c3_20 => exact rfl); (case c4_20 => exact rfl); k_whole; intro _ _ _ _ _ _ _ N' Y' B' _ _ l1; (try k_lt l1); k_cells Y'; (try simp only [List.cons_append, List.nil_append] at N'); (try dsimp only); (try k_lift B'); (try k_fold))
  k_with "k_enter" => (refine' code_def ?k1_0 ?k2_0 ?k3_0 ?k4_0 ?k5_0 ?kA_0 ?kF_0 ?kK_0 ?k6_0 ?k7_0 ?k8_0 ?k9_0 ?kB_0 ?_ ?c2_0 ?c3_0 ?c4_0 ?c5_0; (case kA_0 => exact rfl); (case kF_0 => exact rfl); (case kK_0 => first | exact rfl | assumption); (case k1_0 => k_asm); (case k2_0 => k_asm); (case k3_0 => k_asm); (case k4_0 => k_asm); (case k5_0 => k_asm); (case k6_0 => k_is); (case k7_0 => k_is); (case k8_0 => k_room); (case k9_0 => first | exact BindsTo.of_eq rfl | exact binds_K (by k_in) rfl (by k_is) rfl rfl rfl | fail "k_enter: no rule for these arguments"); (case c5_0 => decide); (case kB_0 => exact locs rfl); (case c2_0 => exact rfl); (case c3_0 => exact rfl); (case c4_0 => exact rfl); k_whole; intro _ _ _ _ _ _ B' _ _; (try dsimp only); (try k_lift B'); (try k_fold))
  k_with "o call type:tuple" => (k_here; (with_reducible show wpAny _ _ (call (Value.type _) [Value.ref _]) _ _ _); k_dflt (refine call_tuple_tup (News.isTup (by k_asm) (by k_extra "k_mem")) ?_))
  k_with "o call type:bytes" => (k_here; (with_reducible show wpAny _ _ (call (Value.type _) [Value.bytes _ _]) _ _ _); refine call_bytes_same ?_)
  k_with "o call type:tuple" => (k_here; (with_reducible show wpAny _ _ (call (Value.type _) [Value.ref _]) _ _ _); k_dflt (refine' tupleOf_ys ?F_18 ?N_18 ?hm_18 ?hz_18 ?_; (case F_18 => k_asm); (case N_18 => k_asm); (case hm_18 => k_extra "k_mem"); (case hz_18 => first | assumption | exact Nat.le_of_ble_eq_true rfl); k_whole); intro _ _ _ _ l1; (try k_lt l1); (try (revert l1; intro _)); (try k_sweep))
  k_with "o compareOp Eq ref ref" => (k_here; (with_reducible show wpAny _ _ (compareOp _ (Value.ref _) (Value.ref _)) _ _ _); k_dflt (refine' eq_tups_nil (by k_asm) ?ka_8 (by k_extra "k_mem") (by ktr_units) ?_; (case ka_8 => k_extra "k_mem")); (try simp only [reduceCtorEq, decide_false, decide_true, Bool.not_false, Bool.not_true]))
  k_with "o compareOp NotEq ref ref" => (k_here; (with_reducible show wpAny _ _ (compareOp _ (Value.ref _) (Value.ref _)) _ _ _); k_dflt (refine' ne_tups_nil (by k_asm) ?ka_9 (by k_extra "k_mem") (by ktr_units) ?_; (case ka_9 => k_extra "k_mem")); (try simp only [reduceCtorEq, decide_false, decide_true, Bool.not_false, Bool.not_true]))
  k_with "o subscriptTail" => (k_here; (with_reducible show wpAny _ _ (subscriptTail _ _ (Value.ref _) (Value.int 0 _)) _ _ _); k_dflt (refine item_ledT0 (News.isTup (by k_asm) (by k_extra "k_mem")) ?_))
  k_with "o subscriptTail" => (k_here; (with_reducible show wpAny _ _ (subscriptTail _ _ (Value.ref _) (Value.ref _)) _ _ _); k_dflt (refine' from_ledT1 ?F_13 ?N_13 ?ht_13 ?hz_13 ?_; (case F_13 => k_asm); (case N_13 => k_asm); (case ht_13 => k_extra "k_mem"); (case hz_13 => first | assumption | (simp only [List.length_map]; first | exact Nat.le_of_ble_eq_true rfl | lia | omega))); intro _ _ _ _ l1; (try k_lt l1); (try (revert l1; intro _)); (try k_sweep))
  k_with "o binaryOp Add ref ref" => (k_here; (with_reducible show wpAny _ _ (binaryOp _ (Value.ref _) (Value.ref _)) _ _ _); k_dflt (refine' add_ledTm ?F_14 ?N_14 ?ht_14 ?hb_14 ?hz_14 ?_; (case F_14 => k_asm); (case N_14 => k_asm); (case ht_14 => k_extra "k_mem"); (case hb_14 => k_extra "k_mem"); (case hz_14 => (simp only [List.length_map, List.length_nil]; first | exact Nat.le_of_ble_eq_true rfl | lia | omega))); intro _ _ _ _ _ _ _; (try k_sweep))
  k_with "o binaryOp Add ref ref" => (k_here; (with_reducible show wpAny _ _ (binaryOp _ (Value.ref _) (Value.ref _)) _ _ _); k_dflt (refine' add_ledT1 ?F_15 ?N_15 ?ht_15 ?hb_15 ?hz_15 ?_; (case F_15 => k_asm); (case N_15 => k_asm); (case ht_15 => k_extra "k_mem"); (case hb_15 => k_extra "k_mem"); (case hz_15 => (simp only [List.length_map, List.length_nil]; first | exact Nat.le_of_ble_eq_true rfl | lia | omega))); intro _ _ _ _ l1; (try k_lt l1); (try (revert l1; intro _)); (try k_sweep))
  k_with "o binaryOp Add ref ref" => (k_here; (with_reducible show wpAny _ _ (binaryOp _ (Value.ref _) (Value.ref _)) _ _ _); k_dflt (refine' add_ledT0 ?F_16 ?N_16 ?ht_16 ?hb_16 ?hz_16 ?_; (case F_16 => k_asm); (case N_16 => k_asm); (case ht_16 => k_extra "k_mem"); (case hb_16 => k_extra "k_mem"); (case hz_16 => (simp only [List.length_map, List.length_nil]; first | exact Nat.le_of_ble_eq_true rfl | lia | omega))))
  k_with "tbn_conj" => first | exact abv_nil | assumption | exact abv_one (by assumption) | (refine abv_next (by first | assumption | exact And.left (by assumption) | lia | omega) ?_; k_extra "tbn_conj") | exact abv_oneA (by first | assumption | exact And.right (by assumption) | exact And.right (And.right (by assumption))) | (refine abv_all (by assumption) ?_; k_extra "tbn_conj") | (refine abv_allA (by first | assumption | exact And.right (by assumption) | exact And.right (And.right (by assumption))) ?_; k_extra "tbn_conj") | (refine abv_allS (by assumption) (by simp only [List.cons_append, List.append_assoc, List.nil_append]) ?_; k_extra "tbn_conj") | (refine abv_app ?_ ?_ <;> k_extra "tbn_conj")
  k_with "o mem9" => (with_reducible first | exact List.mem_cons_self | (refine List.mem_cons_of_mem _ ?_; k_extra "o mem9") | (refine List.mem_append_right _ ?_; k_extra "o mem9") | (refine List.mem_append_left _ ?_; k_extra "o mem9") | assumption)
  k_with "o subv" => (with_reducible first | exact sub_rfl | exact sub_le | (refine sub_tl ?_; k_extra "o subv") | (refine sub_ri ?_; k_extra "o subv") | (refine sub_lf ?_; k_extra "o subv"))
  k_with "o sub9" => first | k_extra "o subv" | exact sub_nil | ((with_reducible refine sub_cons ?_ ?_); (k_extra "o mem9"); k_extra "o sub9") | ((with_reducible refine sub_app ?_ ?_); k_extra "o sub9"; k_extra "o sub9")
  k_with "k_all" => first | exact allNe_of (by assumption) (by first | exact Nat.le_refl _ | exact Nat.le_succ _ | lia | omega) | exact allNe_of (ktn_ltOf (by first | assumption | exact And.right (by assumption) | exact And.right (And.right (by assumption)))) (by first | exact Nat.le_refl _ | exact Nat.le_succ _ | lia | omega)
  k_with "o subscriptTail" => (k_here; (with_reducible show wpAny _ _ (subscriptTail _ _ (Value.ref 153) (Value.int (Builtin.bitAnd _ 15) _)) _ _ _); k_dflt (refine' tbl_item ?F_21 ?X_21 (bitAnd_m4 _) ?_; (case F_21 => k_asm); (case X_21 => k_asm)); intro _)
  k_with "o InvEndN" => (refine InvEndN.intro (by assumption) (by assumption) ⟨rfl, ⟨_, by with_unfolding_all rfl⟩, by kba_same⟩ (by rfl) (fun p hp => List.mem_append_left _ hp) (fun p hp => List.mem_append_right _ hp))
  intro p loose mean mg mb dp un gd cn cs ad ccd cl outer A₀ base h₀ L m s Q E B F X N T hk hd' hu hret
  k_steps
  all_goals exact hret _ _ _ (by assumption) (by assumption)
end
theorem frame_sum_ok (w : World) (news : Led) (b : Array UInt8) (tb : Tok) (ks : List Int) (hk9 : KBw.bInts b = ks) (hz : ks.length ≤ 2000) :
    Ctr w 165 8 50 [.bytes b tb] news (fun R => ∀ b' t, KBw.bInts b' = sumL ks → R news (.bytes b' t)) := by
  k_with_none
  w_top off
  k_with "k_mem" => first | assumption | exact List.mem_cons_self | (refine List.mem_cons_of_mem _ ?_; k_extra "k_mem") | (refine List.mem_append_right _ ?_; k_extra "k_mem") | (refine List.mem_append_left _ ?_; k_extra "k_mem")
  k_with "k_all" => assumption
  k_with "ktr_room" => ((try simp only [depth_under_make, depth_under_kw, depth_in1, depth_deeper, depth_caller]); (try dsimp only [ktrTop]); first | exact room0 (by with_reducible assumption) | exact room1 (by with_reducible assumption) rfl | exact room2 (by with_reducible assumption) rfl | exact room3 (by with_reducible assumption) rfl | exact Nat.le_of_ble_eq_true rfl | lia | omega)
  k_with "k_room" => ktr_room
  k_with "ktr_units" => ((try simp only [units_in1, units_deeper, Around.mark_units, units_caller]); (try dsimp only [ktrTop]); first | exact room0 (by with_reducible assumption) | exact room1 (by with_reducible assumption) rfl | exact room2 (by with_reducible assumption) rfl | exact room3 (by with_reducible assumption) rfl | exact Nat.le_of_ble_eq_true rfl | ((have hcL9 := cLine_is); (first | lia | omega)))
  k_with "k_enter" => (refine' code_defC ?k1_20 ?k2_20 ?k3_20 ?k4_20 ?k5_20 ?kA_20 ?kF_20 ?kK_20 ?k6_20 ?k7_20 ?k8_20 ?k9_20 ?kB_20 ?kD_20 ?_ ?c2_20 ?c3_20 ?c4_20; (case kA_20 => exact rfl); (case kF_20 => exact rfl); (case kK_20 => first | exact rfl | assumption); (case k1_20 => k_asm); (case k2_20 => k_asm); (case k3_20 => k_asm); (case k4_20 => k_asm); (case k5_20 => k_asm); (case k6_20 => k_is); (case k7_20 => k_is); (case k8_20 => k_room); (case k9_20 => first | exact BindsTo.of_eq rfl | exact binds_K (by k_in) rfl (by k_is) rfl rfl rfl | fail "k_enter: no rule for these arguments"); (case kB_20 => exact rfl); (case kD_20 => decide +kernel); (case c2_20 => exact rfl); (case c3_20 => exact rfl); (case c4_20 => exact rfl); k_whole; intro _ _ _ _ _ _ _ N' Y' B' _ _ l1; (try k_lt l1); k_cells Y'; (try simp only [List.cons_append, List.nil_append] at N'); (try dsimp only); (try k_lift B'); (try k_fold))
  k_with "k_enter" => (refine' code_def ?k1_0 ?k2_0 ?k3_0 ?k4_0 ?k5_0 ?kA_0 ?kF_0 ?kK_0 ?k6_0 ?k7_0 ?k8_0 ?k9_0 ?kB_0 ?_ ?c2_0 ?c3_0 ?c4_0 ?c5_0; (case kA_0 => exact rfl); (case kF_0 => exact rfl); (case kK_0 => first | exact rfl | assumption); (case k1_0 => k_asm); (case k2_0 => k_asm); (case k3_0 => k_asm); (case k4_0 => k_asm); (case k5_0 => k_asm); (case k6_0 => k_is); (case k7_0 => k_is); (case k8_0 => k_room); (case k9_0 => first | exact BindsTo.of_eq rfl | exact binds_K (by k_in) rfl (by k_is) rfl rfl rfl | fail "k_enter: no rule for these arguments"); (case c5_0 => decide); (case kB_0 => exact locs rfl); (case c2_0 => exact rfl); (case c3_0 => exact rfl); (case c4_0 => exact rfl); k_whole; intro _ _ _ _ _ _ B' _ _; (try dsimp only); (try k_lift B'); (try k_fold))
  k_with "o call type:tuple" => (k_here; (with_reducible show wpAny _ _ (call (Value.type _) [Value.ref _]) _ _ _); k_dflt (refine call_tuple_tup (News.isTup (by k_asm) (by k_extra "k_mem")) ?_))
  k_with "o call type:bytes" => (k_here; (with_reducible show wpAny _ _ (call (Value.type _) [Value.bytes _ _]) _ _ _); refine call_bytes_same ?_)
  k_with "o call type:tuple" => (k_here; (with_reducible show wpAny _ _ (call (Value.type _) [Value.ref _]) _ _ _); k_dflt (refine' tupleOf_ys ?F_18 ?N_18 ?hm_18 ?hz_18 ?_; (case F_18 => k_asm); (case N_18 => k_asm); (case hm_18 => k_extra "k_mem"); (case hz_18 => first | assumption | exact Nat.le_of_ble_eq_true rfl); k_whole); intro _ _ _ _ l1; (try k_lt l1); (try (revert l1; intro _)); (try k_sweep))
  k_with "o compareOp Eq ref ref" => (k_here; (with_reducible show wpAny _ _ (compareOp _ (Value.ref _) (Value.ref _)) _ _ _); k_dflt (refine' eq_tups_nil (by k_asm) ?ka_8 (by k_extra "k_mem") (by ktr_units) ?_; (case ka_8 => k_extra "k_mem")); (try simp only [reduceCtorEq, decide_false, decide_true, Bool.not_false, Bool.not_true]))
  k_with "o compareOp NotEq ref ref" => (k_here; (with_reducible show wpAny _ _ (compareOp _ (Value.ref _) (Value.ref _)) _ _ _); k_dflt (refine' ne_tups_nil (by k_asm) ?ka_9 (by k_extra "k_mem") (by ktr_units) ?_; (case ka_9 => k_extra "k_mem")); (try simp only [reduceCtorEq, decide_false, decide_true, Bool.not_false, Bool.not_true]))
  k_with "o subscriptTail" => (k_here; (with_reducible show wpAny _ _ (subscriptTail _ _ (Value.ref _) (Value.int 0 _)) _ _ _); k_dflt (refine item_ledT0 (News.isTup (by k_asm) (by k_extra "k_mem")) ?_))
  k_with "o subscriptTail" => (k_here; (with_reducible show wpAny _ _ (subscriptTail _ _ (Value.ref _) (Value.ref _)) _ _ _); k_dflt (refine' from_ledT1 ?F_13 ?N_13 ?ht_13 ?hz_13 ?_; (case F_13 => k_asm); (case N_13 => k_asm); (case ht_13 => k_extra "k_mem"); (case hz_13 => first | assumption | (simp only [List.length_map]; first | exact Nat.le_of_ble_eq_true rfl | lia | omega))); intro _ _ _ _ l1; (try k_lt l1); (try (revert l1; intro _)); (try k_sweep))
  k_with "o binaryOp Add ref ref" => (k_here; (with_reducible show wpAny _ _ (binaryOp _ (Value.ref _) (Value.ref _)) _ _ _); k_dflt (refine' add_ledTm ?F_14 ?N_14 ?ht_14 ?hb_14 ?hz_14 ?_; (case F_14 => k_asm); (case N_14 => k_asm); (case ht_14 => k_extra "k_mem"); (case hb_14 => k_extra "k_mem"); (case hz_14 => (simp only [List.length_map, List.length_nil]; first | exact Nat.le_of_ble_eq_true rfl | lia | omega))); intro _ _ _ _ _ _ _; (try k_sweep))
  k_with "o binaryOp Add ref ref" => (k_here; (with_reducible show wpAny _ _ (binaryOp _ (Value.ref _) (Value.ref _)) _ _ _); k_dflt (refine' add_ledT1 ?F_15 ?N_15 ?ht_15 ?hb_15 ?hz_15 ?_; (case F_15 => k_asm); (case N_15 => k_asm); (case ht_15 => k_extra "k_mem"); (case hb_15 => k_extra "k_mem"); (case hz_15 => (simp only [List.length_map, List.length_nil]; first | exact Nat.le_of_ble_eq_true rfl | lia | omega))); intro _ _ _ _ l1; (try k_lt l1); (try (revert l1; intro _)); (try k_sweep))
  k_with "o binaryOp Add ref ref" => (k_here; (with_reducible show wpAny _ _ (binaryOp _ (Value.ref _) (Value.ref _)) _ _ _); k_dflt (refine' add_ledT0 ?F_16 ?N_16 ?ht_16 ?hb_16 ?hz_16 ?_; (case F_16 => k_asm); (case N_16 => k_asm); (case ht_16 => k_extra "k_mem"); (case hb_16 => k_extra "k_mem"); (case hz_16 => (simp only [List.length_map, List.length_nil]; first | exact Nat.le_of_ble_eq_true rfl | lia | omega))))
  k_with "tbn_conj" => first | exact abv_nil | assumption | exact abv_one (by assumption) | (refine abv_next (by first | assumption | exact And.left (by assumption) | lia | omega) ?_; k_extra "tbn_conj") | exact abv_oneA (by first | assumption | exact And.right (by assumption) | exact And.right (And.right (by assumption))) | (refine abv_all (by assumption) ?_; k_extra "tbn_conj") | (refine abv_allA (by first | assumption | exact And.right (by assumption) | exact And.right (And.right (by assumption))) ?_; k_extra "tbn_conj") | (refine abv_allS (by assumption) (by simp only [List.cons_append, List.append_assoc, List.nil_append]) ?_; k_extra "tbn_conj") | (refine abv_app ?_ ?_ <;> k_extra "tbn_conj")
  k_with "o mem9" => (with_reducible first | exact List.mem_cons_self | (refine List.mem_cons_of_mem _ ?_; k_extra "o mem9") | (refine List.mem_append_right _ ?_; k_extra "o mem9") | (refine List.mem_append_left _ ?_; k_extra "o mem9") | assumption)
  k_with "o subv" => (with_reducible first | exact sub_rfl | exact sub_le | (refine sub_tl ?_; k_extra "o subv") | (refine sub_ri ?_; k_extra "o subv") | (refine sub_lf ?_; k_extra "o subv"))
  k_with "o sub9" => first | k_extra "o subv" | exact sub_nil | ((with_reducible refine sub_cons ?_ ?_); (k_extra "o mem9"); k_extra "o sub9") | ((with_reducible refine sub_app ?_ ?_); k_extra "o sub9"; k_extra "o sub9")
  k_with "k_all" => first | exact allNe_of (by assumption) (by first | exact Nat.le_refl _ | exact Nat.le_succ _ | lia | omega) | exact allNe_of (ktn_ltOf (by first | assumption | exact And.right (by assumption) | exact And.right (And.right (by assumption)))) (by first | exact Nat.le_refl _ | exact Nat.le_succ _ | lia | omega)
  k_with "o call ref" => (k_here; (with_reducible show wpAny _ _ (call (Value.ref 160) _) _ _ _); k_dflt (refine' Ctr.use (crc32_ok _ _ _ _ _ ?kc_22 ?kz_22) ?k1_22 ?k2_22 ?k3_22 ?k4_22 ?k5_22 ?kK_22 ?kd_22 ?ku_22 ?_; (case k1_22 => k_asm); (case k2_22 => k_asm); (case k3_22 => k_asm); (case k4_22 => k_asm); (case k5_22 => k_asm); (case kK_22 => first | exact rfl | assumption); (case kd_22 => ktr_room); (case ku_22 => ktr_units); (case kc_22 => assumption); (case kz_22 => assumption); k_whole; intros; (try dsimp only); (try k_sweep); (try k_fold)))
  k_with "o call type:bytes" => (k_here; (with_reducible show wpAny _ _ (call (Value.type "bytes") [Value.ref _]) _ _ _); k_dflt (refine' KBa.make_K ?kbaF_23 ?kbaN_23 ?kbah_23 ?kbal_23 ?kbai_23 ?kbar_23 ?kban_23 ?_; (case kbaF_23 => k_asm); (case kbaN_23 => k_asm); (case kbah_23 => rfl); (case kbal_23 => exact News.isList (by k_asm) (by k_extra "k_mem")); (case kbai_23 => assumption); (case kbar_23 => exact in255 _ _); (case kban_23 => first | exact Nat.le_of_ble_eq_true rfl | decide)); intro _ _ _ _ _ _)
  intro p loose mean mg mb dp un gd cn cs ad ccd cl outer A₀ base h₀ L m s Q E B F X N T hk hd' hu hret
  k_steps
  all_goals
    refine' hret _ _ (KBa.ints_make (by assumption)) _ _ ?e3 (News.perm ?e4 ?e5)
    (case e4 => assumption)
    (case e3 => assumption)
    (case e5 => (intro q9 hq9; simp only [List.mem_cons]; simp only [hq9, or_true]))
end
end
section
open PySem PySem.W PyProof.Rows PySem.Calls PySem.Spec
set_option maxRecDepth 100000
set_option maxHeartbeats 8000000
section
theorem put_number2_ok (w : World) (news : Led) (n : Int) (tn tm : Tok) (h0 : 0 ≤ n) (h1 : n < 2 ^ 16) :
    Ctr w 170 5 40 [.int n tn, .int 2 tm] news (fun R => ∀ b' t, KBw.bInts b' = putL n 2 2 → R news (.bytes b' t)) := by
  k_with_none
  w_top off
  k_with "k_mem" => first | assumption | exact List.mem_cons_self | (refine List.mem_cons_of_mem _ ?_; k_extra "k_mem") | (refine List.mem_append_right _ ?_; k_extra "k_mem") | (refine List.mem_append_left _ ?_; k_extra "k_mem")
  k_with "k_all" => assumption
  k_with "ktr_room" => ((try simp only [depth_under_make, depth_under_kw, depth_in1, depth_deeper, depth_caller]); (try dsimp only [ktrTop]); first | exact room0 (by with_reducible assumption) | exact room1 (by with_reducible assumption) rfl | exact room2 (by with_reducible assumption) rfl | exact room3 (by with_reducible assumption) rfl | exact Nat.le_of_ble_eq_true rfl | lia | omega)
  k_with "k_room" => ktr_room
  k_with "ktr_units" => ((try simp only [units_in1, units_deeper, Around.mark_units, units_caller]); (try dsimp only [ktrTop]); first | exact room0 (by with_reducible assumption) | exact room1 (by with_reducible assumption) rfl | exact room2 (by with_reducible assumption) rfl | exact room3 (by with_reducible assumption) rfl | exact Nat.le_of_ble_eq_true rfl | ((have hcL9 := cLine_is); (first | lia | omega)))
  k_with "k_enter" => (refine' code_defC ?k1_20 ?k2_20 ?k3_20 ?k4_20 ?k5_20 ?kA_20 ?kF_20 ?kK_20 ?k6_20 ?k7_20 ?k8_20 ?k9_20 ?kB_20 ?kD_20 ?_ ?c2_20 ?c3_20 ?c4_20; (case kA_20 => exact rfl); (case kF_20 => exact rfl); (case kK_20 => first | exact rfl | assumption); (case k1_20 => k_asm); (case k2_20 => k_asm); (case k3_20 => k_asm); (case k4_20 => k_asm); (case k5_20 => k_asm); (case k6_20 => k_is); (case k7_20 => k_is); (case k8_20 => k_room); (case k9_20 => first | exact BindsTo.of_eq rfl | exact binds_K (by k_in) rfl (by k_is) rfl rfl rfl | fail "k_enter: no rule for these arguments"); (case kB_20 => exact rfl); (case kD_20 => decide +kernel); (case c2_20 => exact rfl); (case c3_20 => exact rfl); (case c4_20 => exact rfl); k_whole; intro _ _ _ _ _ _ _ N' Y' B' _ _ l1; (try k_lt l1); k_cells Y'; (try simp only [List.cons_append, List.nil_append] at N'); (try dsimp only); (try k_lift B'); (try k_fold))
  k_with "k_enter" => (refine' code_def ?k1_0 ?k2_0 ?k3_0 ?k4_0 ?k5_0 ?kA_0 ?kF_0 ?kK_0 ?k6_0 ?k7_0 ?k8_0 ?k9_0 ?kB_0 ?_ ?c2_0 ?c3_0 ?c4_0 ?c5_0; (case kA_0 => exact rfl); (case kF_0 => exact rfl); (case kK_0 => first | exact rfl | assumption); (case k1_0 => k_asm); (case k2_0 => k_asm); (case k3_0 => k_asm); (case k4_0 => k_asm); (case k5_0 => k_asm); (case k6_0 => k_is); (case k7_0 => k_is); (case k8_0 => k_room); (case k9_0 => first | exact BindsTo.of_eq rfl | exact binds_K (by k_in) rfl (by k_is) rfl rfl rfl | fail "k_enter: no rule for these arguments"); (case c5_0 => decide); (case kB_0 => exact locs rfl); (case c2_0 => exact rfl); (case c3_0 => exact rfl); (case c4_0 => exact rfl); k_whole; intro _ _ _ _ _ _ B' _ _; (try dsimp only); (try k_lift B'); (try k_fold))
  k_with "o call type:tuple" => (k_here; (with_reducible show wpAny _ _ (call (Value.type _) [Value.ref _]) _ _ _); k_dflt (refine call_tuple_tup (News.isTup (by k_asm) (by k_extra "k_mem")) ?_))
  k_with "o call type:bytes" => (k_here; (with_reducible show wpAny _ _ (call (Value.type _) [Value.bytes _ _]) _ _ _); refine call_bytes_same ?_)
  k_with "o call type:tuple" => (k_here; (with_reducible show wpAny _ _ (call (Value.type _) [Value.ref _]) _ _ _); k_dflt (refine' tupleOf_ys ?F_18 ?N_18 ?hm_18 ?hz_18 ?_; (case F_18 => k_asm); (case N_18 => k_asm); (case hm_18 => k_extra "k_mem"); (case hz_18 => first | assumption | exact Nat.le_of_ble_eq_true rfl); k_whole); intro _ _ _ _ l1; (try k_lt l1); (try (revert l1; intro _)); (try k_sweep))
  k_with "o compareOp Eq ref ref" => (k_here; (with_reducible show wpAny _ _ (compareOp _ (Value.ref _) (Value.ref _)) _ _ _); k_dflt (refine' eq_tups_nil (by k_asm) ?ka_8 (by k_extra "k_mem") (by ktr_units) ?_; (case ka_8 => k_extra "k_mem")); (try simp only [reduceCtorEq, decide_false, decide_true, Bool.not_false, Bool.not_true]))
  k_with "o compareOp NotEq ref ref" => (k_here; (with_reducible show wpAny _ _ (compareOp _ (Value.ref _) (Value.ref _)) _ _ _); k_dflt (refine' ne_tups_nil (by k_asm) ?ka_9 (by k_extra "k_mem") (by ktr_units) ?_; (case ka_9 => k_extra "k_mem")); (try simp only [reduceCtorEq, decide_false, decide_true, Bool.not_false, Bool.not_true]))
  k_with "o subscriptTail" => (k_here; (with_reducible show wpAny _ _ (subscriptTail _ _ (Value.ref _) (Value.int 0 _)) _ _ _); k_dflt (refine item_ledT0 (News.isTup (by k_asm) (by k_extra "k_mem")) ?_))
  k_with "o subscriptTail" => (k_here; (with_reducible show wpAny _ _ (subscriptTail _ _ (Value.ref _) (Value.ref _)) _ _ _); k_dflt (refine' from_ledT1 ?F_13 ?N_13 ?ht_13 ?hz_13 ?_; (case F_13 => k_asm); (case N_13 => k_asm); (case ht_13 => k_extra "k_mem"); (case hz_13 => first | assumption | (simp only [List.length_map]; first | exact Nat.le_of_ble_eq_true rfl | lia | omega))); intro _ _ _ _ l1; (try k_lt l1); (try (revert l1; intro _)); (try k_sweep))
  k_with "o binaryOp Add ref ref" => (k_here; (with_reducible show wpAny _ _ (binaryOp _ (Value.ref _) (Value.ref _)) _ _ _); k_dflt (refine' add_ledTm ?F_14 ?N_14 ?ht_14 ?hb_14 ?hz_14 ?_; (case F_14 => k_asm); (case N_14 => k_asm); (case ht_14 => k_extra "k_mem"); (case hb_14 => k_extra "k_mem"); (case hz_14 => (simp only [List.length_map, List.length_nil]; first | exact Nat.le_of_ble_eq_true rfl | lia | omega))); intro _ _ _ _ _ _ _; (try k_sweep))
  k_with "o binaryOp Add ref ref" => (k_here; (with_reducible show wpAny _ _ (binaryOp _ (Value.ref _) (Value.ref _)) _ _ _); k_dflt (refine' add_ledT1 ?F_15 ?N_15 ?ht_15 ?hb_15 ?hz_15 ?_; (case F_15 => k_asm); (case N_15 => k_asm); (case ht_15 => k_extra "k_mem"); (case hb_15 => k_extra "k_mem"); (case hz_15 => (simp only [List.length_map, List.length_nil]; first | exact Nat.le_of_ble_eq_true rfl | lia | omega))); intro _ _ _ _ l1; (try k_lt l1); (try (revert l1; intro _)); (try k_sweep))
  k_with "o binaryOp Add ref ref" => (k_here; (with_reducible show wpAny _ _ (binaryOp _ (Value.ref _) (Value.ref _)) _ _ _); k_dflt (refine' add_ledT0 ?F_16 ?N_16 ?ht_16 ?hb_16 ?hz_16 ?_; (case F_16 => k_asm); (case N_16 => k_asm); (case ht_16 => k_extra "k_mem"); (case hb_16 => k_extra "k_mem"); (case hz_16 => (simp only [List.length_map, List.length_nil]; first | exact Nat.le_of_ble_eq_true rfl | lia | omega))))
  k_with "tbn_conj" => first | exact abv_nil | assumption | exact abv_one (by assumption) | (refine abv_next (by first | assumption | exact And.left (by assumption) | lia | omega) ?_; k_extra "tbn_conj") | exact abv_oneA (by first | assumption | exact And.right (by assumption) | exact And.right (And.right (by assumption))) | (refine abv_all (by assumption) ?_; k_extra "tbn_conj") | (refine abv_allA (by first | assumption | exact And.right (by assumption) | exact And.right (And.right (by assumption))) ?_; k_extra "tbn_conj") | (refine abv_allS (by assumption) (by simp only [List.cons_append, List.append_assoc, List.nil_append]) ?_; k_extra "tbn_conj") | (refine abv_app ?_ ?_ <;> k_extra "tbn_conj")
  k_with "o mem9" => (with_reducible first | exact List.mem_cons_self | (refine List.mem_cons_of_mem _ ?_; k_extra "o mem9") | (refine List.mem_append_right _ ?_; k_extra "o mem9") | (refine List.mem_append_left _ ?_; k_extra "o mem9") | assumption)
  k_with "o subv" => (with_reducible first | exact sub_rfl | exact sub_le | (refine sub_tl ?_; k_extra "o subv") | (refine sub_ri ?_; k_extra "o subv") | (refine sub_lf ?_; k_extra "o subv"))
  k_with "o sub9" => first | k_extra "o subv" | exact sub_nil | ((with_reducible refine sub_cons ?_ ?_); (k_extra "o mem9"); k_extra "o sub9") | ((with_reducible refine sub_app ?_ ?_); k_extra "o sub9"; k_extra "o sub9")
  k_with "o eval ListComp" => (k_here; k_dflt (refine ListComp_rng (by k_asm) (by rfl) (by decide) (by rfl) (by decide) (by rfl) ?_))
  k_with "o call type:bytes" => (k_here; (with_reducible show wpAny _ _ (call (Value.type "bytes") [Value.ref _]) _ _ _); k_dflt (refine' KBa.make_K ?kbaF_24 ?kbaN_24 ?kbah_24 ?kbal_24 ?kbai_24 ?kbar_24 ?kban_24 ?_; (case kbaF_24 => k_asm); (case kbaN_24 => k_asm); (case kbah_24 => rfl); (case kbal_24 => exact News.isList (by k_asm) (by k_extra "k_mem")); (case kbai_24 => assumption); (case kbar_24 => exact putL_in _ _ _); (case kban_24 => first | exact Nat.le_of_ble_eq_true rfl | decide)); intro _ _ _ _ _ _)
  intro p loose mean mg mb dp un gd cn cs ad ccd cl outer A₀ base h₀ L m s Q E B F X N T hk hd' hu hret
  have h2 : n < 1 * 2 ^ ((8 : Int) * 2).toNat := by simpa using h1
  k_steps
  rename_i g9 L9 h9 k9 FG9 F9 X9 T9 o9 d9 N9 h8 k8 t9 u9 v9 hR9 hF9 hN9 hM9
  refine ⟨_, _, _, _, _, _, _, 2, _, rfl, rfl, by k_asm, by k_asm, by assumption, by rfl, by rfl, by rw [sizeLine_eq]; (first | lia | omega), fun g => compRest_inv (n := 2) (fun i ys nw => nw = (L9 + 1, o9) :: news ∧ IntsAre ys (putL n 2 i)) ?_ ?_ _ 0 [] _ (Nat.zero_add _) ⟨rfl, .nil⟩⟩
  · rintro i ys nw v R hi ⟨rfl, hI⟩ ⟨_, t, rfl⟩ hR I oI C oC D m₂ h tk E' hNs hx2 F2 N2 off ne
    have h9 : 0 ≤ 8 * (((2 : Int) - 1) + (i : Int) * -1) := by (first | lia | omega)
    k_steps
    refine' LCg.CompEnd.intro ?e3 ?e4 ((L9 + 1, o9) :: news) ?e5 off trivial (hR _ _ ⟨rfl, ?e6⟩)
    (case e3 => assumption)
    (case e4 => assumption)
    (case e5 => exact fun q hq => hq)
    (case e6 => exact putL_succ n 2 i ▸ IntsAre.append hI (.cons _ _ .nil))
  · rintro ys nw ⟨rfl, hI⟩
    have hl : ys.length = 2 := by rw [hI.length, putL_length]
    k_steps
    all_goals
      refine' hret _ _ (KBa.ints_make (by assumption)) _ _ ?e3 (News.perm ?e4 ?e5)
      (case e4 => assumption)
      (case e3 => assumption)
      (case e5 => (intro q9 hq9; simp only [List.mem_cons]; simp only [hq9, or_true]))
theorem put_number6_ok (w : World) (news : Led) (n : Int) (tn tm : Tok) (h0 : 0 ≤ n) (h1 : n < 2 ^ 48) :
    Ctr w 170 5 40 [.int n tn, .int 6 tm] news (fun R => ∀ b' t, KBw.bInts b' = putL n 6 6 → R news (.bytes b' t)) := by
  w_top off
  intro p loose mean mg mb dp un gd cn cs ad ccd cl outer A₀ base h₀ L m s Q E B F X N T hk hd' hu hret
  have h2 : n < 1 * 2 ^ ((8 : Int) * 6).toNat := by simpa using h1
  k_steps
  rename_i g9 L9 h9 k9 FG9 F9 X9 T9 o9 d9 N9 h8 k8 t9 u9 v9 hR9 hF9 hN9 hM9
  refine ⟨_, _, _, _, _, _, _, 6, _, rfl, rfl, by k_asm, by k_asm, by assumption, by rfl, by rfl, by rw [sizeLine_eq]; (first | lia | omega), fun g => compRest_inv (n := 6) (fun i ys nw => nw = (L9 + 1, o9) :: news ∧ IntsAre ys (putL n 6 i)) ?_ ?_ _ 0 [] _ (Nat.zero_add _) ⟨rfl, .nil⟩⟩
  · rintro i ys nw v R hi ⟨rfl, hI⟩ ⟨_, t, rfl⟩ hR I oI C oC D m₂ h tk E' hNs hx2 F2 N2 off ne
    have h9 : 0 ≤ 8 * (((6 : Int) - 1) + (i : Int) * -1) := by (first | lia | omega)
    k_steps
    refine' LCg.CompEnd.intro ?e3 ?e4 ((L9 + 1, o9) :: news) ?e5 off trivial (hR _ _ ⟨rfl, ?e6⟩)
    (case e3 => assumption)
    (case e4 => assumption)
    (case e5 => exact fun q hq => hq)
    (case e6 => exact putL_succ n 6 i ▸ IntsAre.append hI (.cons _ _ .nil))
  · rintro ys nw ⟨rfl, hI⟩
    have hl : ys.length = 6 := by rw [hI.length, putL_length]
    k_steps
    all_goals
      refine' hret _ _ (KBa.ints_make (by assumption)) _ _ ?e3 (News.perm ?e4 ?e5)
      (case e4 => assumption)
      (case e3 => assumption)
      (case e5 => (intro q9 hq9; simp only [List.mem_cons]; simp only [hq9, or_true]))
end
end
section
open PySem PySem.W PyProof.Rows PySem.Calls PySem.Spec
set_option maxRecDepth 100000
set_option maxHeartbeats 8000000
section
theorem pack_tag_ok (w : World) (news : Led) (x0 : Addr) (t : TagV) (ht : IsTag w news x0 t) (hr : RowOk t) :
    Ctr w 275 12 90 [.ref x0] news (fun R => ∀ b' tk, KBw.bInts b' = tagL t → R news (.bytes b' tk)) := by
  k_with_none
  w_top off
  k_with "k_mem" => first | assumption | exact List.mem_cons_self | (refine List.mem_cons_of_mem _ ?_; k_extra "k_mem") | (refine List.mem_append_right _ ?_; k_extra "k_mem") | (refine List.mem_append_left _ ?_; k_extra "k_mem")
  k_with "k_all" => assumption
  k_with "ktr_room" => ((try simp only [depth_under_make, depth_under_kw, depth_in1, depth_deeper, depth_caller]); (try dsimp only [ktrTop]); first | exact room0 (by with_reducible assumption) | exact room1 (by with_reducible assumption) rfl | exact room2 (by with_reducible assumption) rfl | exact room3 (by with_reducible assumption) rfl | exact Nat.le_of_ble_eq_true rfl | lia | omega)
  k_with "k_room" => ktr_room
  k_with "ktr_units" => ((try simp only [units_in1, units_deeper, Around.mark_units, units_caller]); (try dsimp only [ktrTop]); first | exact room0 (by with_reducible assumption) | exact room1 (by with_reducible assumption) rfl | exact room2 (by with_reducible assumption) rfl | exact room3 (by with_reducible assumption) rfl | exact Nat.le_of_ble_eq_true rfl | ((have hcL9 := cLine_is); (first | lia | omega)))
  k_with "k_enter" => (refine' code_defC ?k1_20 ?k2_20 ?k3_20 ?k4_20 ?k5_20 ?kA_20 ?kF_20 ?kK_20 ?k6_20 ?k7_20 ?k8_20 ?k9_20 ?kB_20 ?kD_20 ?_ ?c2_20 ?c3_20 ?c4_20; (case kA_20 => exact rfl); (case kF_20 => exact rfl); (case kK_20 => first | exact rfl | assumption); (case k1_20 => k_asm); (case k2_20 => k_asm); (case k3_20 => k_asm); (case k4_20 => k_asm); (case k5_20 => k_asm); (case k6_20 => k_is); (case k7_20 => k_is); (case k8_20 => k_room); (case k9_20 => first | exact BindsTo.of_eq rfl | exact binds_K (by k_in) rfl (by k_is) rfl rfl rfl | fail "k_enter: no rule for these arguments"); (case kB_20 => exact rfl); (case kD_20 => decide +kernel); (case c2_20 => exact rfl); (case c3_20 => exact rfl); (case c4_20 => exact rfl); k_whole; intro _ _ _ _ _ _ _ N' Y' B' _ _ l1; (try k_lt l1); k_cells Y'; (try simp only [List.cons_append, List.nil_append] at N'); (try dsimp only); (try k_lift B'); (try k_fold))
  k_with "k_enter" => (refine' code_def ?k1_0 ?k2_0 ?k3_0 ?k4_0 ?k5_0 ?kA_0 ?kF_0 ?kK_0 ?k6_0 ?k7_0 ?k8_0 ?k9_0 ?kB_0 ?_ ?c2_0 ?c3_0 ?c4_0 ?c5_0; (case kA_0 => exact rfl); (case kF_0 => exact rfl); (case kK_0 => first | exact rfl | assumption); (case k1_0 => k_asm); (case k2_0 => k_asm); (case k3_0 => k_asm); (case k4_0 => k_asm); (case k5_0 => k_asm); (case k6_0 => k_is); (case k7_0 => k_is); (case k8_0 => k_room); (case k9_0 => first | exact BindsTo.of_eq rfl | exact binds_K (by k_in) rfl (by k_is) rfl rfl rfl | fail "k_enter: no rule for these arguments"); (case c5_0 => decide); (case kB_0 => exact locs rfl); (case c2_0 => exact rfl); (case c3_0 => exact rfl); (case c4_0 => exact rfl); k_whole; intro _ _ _ _ _ _ B' _ _; (try dsimp only); (try k_lift B'); (try k_fold))
  k_with "o call type:tuple" => (k_here; (with_reducible show wpAny _ _ (call (Value.type _) [Value.ref _]) _ _ _); k_dflt (refine call_tuple_tup (News.isTup (by k_asm) (by k_extra "k_mem")) ?_))
  k_with "o call type:bytes" => (k_here; (with_reducible show wpAny _ _ (call (Value.type _) [Value.bytes _ _]) _ _ _); refine call_bytes_same ?_)
  k_with "o call type:tuple" => (k_here; (with_reducible show wpAny _ _ (call (Value.type _) [Value.ref _]) _ _ _); k_dflt (refine' tupleOf_ys ?F_18 ?N_18 ?hm_18 ?hz_18 ?_; (case F_18 => k_asm); (case N_18 => k_asm); (case hm_18 => k_extra "k_mem"); (case hz_18 => first | assumption | exact Nat.le_of_ble_eq_true rfl); k_whole); intro _ _ _ _ l1; (try k_lt l1); (try (revert l1; intro _)); (try k_sweep))
  k_with "o compareOp Eq ref ref" => (k_here; (with_reducible show wpAny _ _ (compareOp _ (Value.ref _) (Value.ref _)) _ _ _); k_dflt (refine' eq_tups_nil (by k_asm) ?ka_8 (by k_extra "k_mem") (by ktr_units) ?_; (case ka_8 => k_extra "k_mem")); (try simp only [reduceCtorEq, decide_false, decide_true, Bool.not_false, Bool.not_true]))
  k_with "o compareOp NotEq ref ref" => (k_here; (with_reducible show wpAny _ _ (compareOp _ (Value.ref _) (Value.ref _)) _ _ _); k_dflt (refine' ne_tups_nil (by k_asm) ?ka_9 (by k_extra "k_mem") (by ktr_units) ?_; (case ka_9 => k_extra "k_mem")); (try simp only [reduceCtorEq, decide_false, decide_true, Bool.not_false, Bool.not_true]))
  k_with "o subscriptTail" => (k_here; (with_reducible show wpAny _ _ (subscriptTail _ _ (Value.ref _) (Value.int 0 _)) _ _ _); k_dflt (refine item_ledT0 (News.isTup (by k_asm) (by k_extra "k_mem")) ?_))
  k_with "o subscriptTail" => (k_here; (with_reducible show wpAny _ _ (subscriptTail _ _ (Value.ref _) (Value.ref _)) _ _ _); k_dflt (refine' from_ledT1 ?F_13 ?N_13 ?ht_13 ?hz_13 ?_; (case F_13 => k_asm); (case N_13 => k_asm); (case ht_13 => k_extra "k_mem"); (case hz_13 => first | assumption | (simp only [List.length_map]; first | exact Nat.le_of_ble_eq_true rfl | lia | omega))); intro _ _ _ _ l1; (try k_lt l1); (try (revert l1; intro _)); (try k_sweep))
  k_with "o binaryOp Add ref ref" => (k_here; (with_reducible show wpAny _ _ (binaryOp _ (Value.ref _) (Value.ref _)) _ _ _); k_dflt (refine' add_ledTm ?F_14 ?N_14 ?ht_14 ?hb_14 ?hz_14 ?_; (case F_14 => k_asm); (case N_14 => k_asm); (case ht_14 => k_extra "k_mem"); (case hb_14 => k_extra "k_mem"); (case hz_14 => (simp only [List.length_map, List.length_nil]; first | exact Nat.le_of_ble_eq_true rfl | lia | omega))); intro _ _ _ _ _ _ _; (try k_sweep))
  k_with "o binaryOp Add ref ref" => (k_here; (with_reducible show wpAny _ _ (binaryOp _ (Value.ref _) (Value.ref _)) _ _ _); k_dflt (refine' add_ledT1 ?F_15 ?N_15 ?ht_15 ?hb_15 ?hz_15 ?_; (case F_15 => k_asm); (case N_15 => k_asm); (case ht_15 => k_extra "k_mem"); (case hb_15 => k_extra "k_mem"); (case hz_15 => (simp only [List.length_map, List.length_nil]; first | exact Nat.le_of_ble_eq_true rfl | lia | omega))); intro _ _ _ _ l1; (try k_lt l1); (try (revert l1; intro _)); (try k_sweep))
  k_with "o binaryOp Add ref ref" => (k_here; (with_reducible show wpAny _ _ (binaryOp _ (Value.ref _) (Value.ref _)) _ _ _); k_dflt (refine' add_ledT0 ?F_16 ?N_16 ?ht_16 ?hb_16 ?hz_16 ?_; (case F_16 => k_asm); (case N_16 => k_asm); (case ht_16 => k_extra "k_mem"); (case hb_16 => k_extra "k_mem"); (case hz_16 => (simp only [List.length_map, List.length_nil]; first | exact Nat.le_of_ble_eq_true rfl | lia | omega))))
  k_with "tbn_conj" => first | exact abv_nil | assumption | exact abv_one (by assumption) | (refine abv_next (by first | assumption | exact And.left (by assumption) | lia | omega) ?_; k_extra "tbn_conj") | exact abv_oneA (by first | assumption | exact And.right (by assumption) | exact And.right (And.right (by assumption))) | (refine abv_all (by assumption) ?_; k_extra "tbn_conj") | (refine abv_allA (by first | assumption | exact And.right (by assumption) | exact And.right (And.right (by assumption))) ?_; k_extra "tbn_conj") | (refine abv_allS (by assumption) (by simp only [List.cons_append, List.append_assoc, List.nil_append]) ?_; k_extra "tbn_conj") | (refine abv_app ?_ ?_ <;> k_extra "tbn_conj")
  k_with "o mem9" => (with_reducible first | exact List.mem_cons_self | (refine List.mem_cons_of_mem _ ?_; k_extra "o mem9") | (refine List.mem_append_right _ ?_; k_extra "o mem9") | (refine List.mem_append_left _ ?_; k_extra "o mem9") | assumption)
  k_with "o subv" => (with_reducible first | exact sub_rfl | exact sub_le | (refine sub_tl ?_; k_extra "o subv") | (refine sub_ri ?_; k_extra "o subv") | (refine sub_lf ?_; k_extra "o subv"))
  k_with "o sub9" => first | k_extra "o subv" | exact sub_nil | ((with_reducible refine sub_cons ?_ ?_); (k_extra "o mem9"); k_extra "o sub9") | ((with_reducible refine sub_app ?_ ?_); k_extra "o sub9"; k_extra "o sub9")
  k_with "o compareOp NotIn int ref" => (k_here; (with_reducible show wpAny _ _ (compareOp _ (Value.int _ _) (Value.ref 206)) _ _ _); k_dflt (refine' kinds_notin ?F_25 ?X_25 ?_; (case F_25 => k_asm); (case X_25 => k_asm)); (first | rw [decide_eq_true (by assumption)] | rw [decide_eq_false (by (first | lia | omega))]); (try simp only [Bool.not_true, Bool.not_false]))
  k_with "o binaryOp Add bytes bytes" => (k_here; (with_reducible show wpAny _ _ (binaryOp Operator.Add (Value.bytes _ _) (Value.bytes _ _)) _ _ _); (refine KBa.add_K (by assumption) (by assumption) (by first | lia | omega | (simp only [putL_length, List.length_append, List.length_nil, tagL_length]; first | exact Nat.le_of_ble_eq_true rfl | lia | omega)) ?_); intro _ _ _)
  k_with "o call ref" => (k_here; (with_reducible show wpAny _ _ (call (Value.ref 170) _) _ _ _); (try rw [tag_bits_ite _ _ _ (by assumption) (by assumption) (by assumption)]); k_dflt (refine' Ctr.use (put_number2_ok _ _ _ _ _ ?c1_26 ?c2_26) ?k1_26 ?k2_26 ?k3_26 ?k4_26 ?k5_26 ?kK_26 ?kd_26 ?ku_26 ?_; (case k1_26 => k_asm); (case k2_26 => k_asm); (case k3_26 => k_asm); (case k4_26 => k_asm); (case k5_26 => k_asm); (case kK_26 => first | exact rfl | assumption); (case kd_26 => ktr_room); (case ku_26 => ktr_units); (case c1_26 => first | exact Nat.le_of_ble_eq_true rfl | lia | omega); (case c2_26 => first | lia | omega | assumption); k_whole; intros; (try dsimp only); (try k_sweep); (try k_fold)))
  obtain ⟨dt, ta, tb, tc, te, hx0, hdt⟩ := ht
  have hrr := hr
  obtain ⟨hr1, hr2, hr3, hr4, hr5⟩ := hr
  have hdI := dI_range t.d
  intro p loose mean mg mb dp un gd cn cs ad ccd cl outer A₀ base h₀ L m s Q E B F X N T hk hd' hu hret
  k_steps
  all_goals exact hret _ _ (by assumption) _ _ (by assumption) (by assumption)
end
end
section
open PySem PySem.W PyProof.Rows PySem.Calls PySem.Spec
set_option maxRecDepth 100000
set_option maxHeartbeats 8000000
theorem call_bytes_z {prog : Program} {w : World} {A : Around} {E : Value → Shared → Prop} {s : Shared} {k : Int} {t : Tok} {Q : Value → Shared → Prop} (hk : k = 0) (h : ∀ t' k, Q (.bytes #[] t') { s with toks := k }) : wpAny (model prog w) A (call (.type "bytes") [.int k t]) Q E s := by
  subst hk; exact call_bytes_zero h
theorem sizes_sum : ∀ {l : List (Array UInt8 × Tok)} {ts : List TagV}, l.map (fun p => KBw.bInts p.1) = ts.map tagL → (l.map fun p => p.1.size).sum = 4 * ts.length
  | [], [], _ => rfl
  | [], _ :: _, h => by cases h
  | _ :: _, [], h => by cases h
  | p :: l, t :: ts, h => by
    simp only [List.map_cons, List.cons.injEq] at h
    have e : p.1.size = 4 := by rw [← KBw.ints_length, h.1, tagL_length]
    rw [List.map_cons, List.sum_cons, sizes_sum h.2, e, List.length_cons]; (first | lia | omega)
section
theorem pack_frame_ok (w : World) (news : Led) (x : Addr) (tt tsr tk tp : Tok) (pb : Array UInt8) (xs : List Addr) (ts : List TagV) (ps : List Int) (hf : IsFrm w news x (fv tt tsr tk tp pb) xs) (ht : TagsAt w news xs ts) (hr : ∀ t ∈ ts, RowOk t) (hn : ts.length ≤ 4) (hn1 : 1 ≤ ts.length) (hpb : KBw.bInts pb = ps) (hps : ps.length = 46) :
    Ctr w 288 18 140 [.ref x] news (fun R => ∀ b' tk, KBw.bInts b' = frameL ts ps → R news (.bytes b' tk)) := by
  k_with_none
  w_top off
  k_with "k_mem" => first | assumption | exact List.mem_cons_self | (refine List.mem_cons_of_mem _ ?_; k_extra "k_mem") | (refine List.mem_append_right _ ?_; k_extra "k_mem") | (refine List.mem_append_left _ ?_; k_extra "k_mem")
  k_with "k_all" => assumption
  k_with "ktr_room" => ((try simp only [depth_under_make, depth_under_kw, depth_in1, depth_deeper, depth_caller]); (try dsimp only [ktrTop]); first | exact room0 (by with_reducible assumption) | exact room1 (by with_reducible assumption) rfl | exact room2 (by with_reducible assumption) rfl | exact room3 (by with_reducible assumption) rfl | exact Nat.le_of_ble_eq_true rfl | lia | omega)
  k_with "k_room" => ktr_room
  k_with "ktr_units" => ((try simp only [units_in1, units_deeper, Around.mark_units, units_caller]); (try dsimp only [ktrTop]); first | exact room0 (by with_reducible assumption) | exact room1 (by with_reducible assumption) rfl | exact room2 (by with_reducible assumption) rfl | exact room3 (by with_reducible assumption) rfl | exact Nat.le_of_ble_eq_true rfl | ((have hcL9 := cLine_is); (first | lia | omega)))
  k_with "k_enter" => (refine' code_defC ?k1_20 ?k2_20 ?k3_20 ?k4_20 ?k5_20 ?kA_20 ?kF_20 ?kK_20 ?k6_20 ?k7_20 ?k8_20 ?k9_20 ?kB_20 ?kD_20 ?_ ?c2_20 ?c3_20 ?c4_20; (case kA_20 => exact rfl); (case kF_20 => exact rfl); (case kK_20 => first | exact rfl | assumption); (case k1_20 => k_asm); (case k2_20 => k_asm); (case k3_20 => k_asm); (case k4_20 => k_asm); (case k5_20 => k_asm); (case k6_20 => k_is); (case k7_20 => k_is); (case k8_20 => k_room); (case k9_20 => first | exact BindsTo.of_eq rfl | exact binds_K (by k_in) rfl (by k_is) rfl rfl rfl | fail "k_enter: no rule for these arguments"); (case kB_20 => exact rfl); (case kD_20 => decide +kernel); (case c2_20 => exact rfl); (case c3_20 => exact rfl); (case c4_20 => exact rfl); k_whole; intro _ _ _ _ _ _ _ N' Y' B' _ _ l1; (try k_lt l1); k_cells Y'; (try simp only [List.cons_append, List.nil_append] at N'); (try dsimp only); (try k_lift B'); (try k_fold))
  k_with "k_enter" => (refine' code_def ?k1_0 ?k2_0 ?k3_0 ?k4_0 ?k5_0 ?kA_0 ?kF_0 ?kK_0 ?k6_0 ?k7_0 ?k8_0 ?k9_0 ?kB_0 ?_ ?c2_0 ?c3_0 ?c4_0 ?c5_0; (case kA_0 => exact rfl); (case kF_0 => exact rfl); (case kK_0 => first | exact rfl | assumption); (case k1_0 => k_asm); (case k2_0 => k_asm); (case k3_0 => k_asm); (case k4_0 => k_asm); (case k5_0 => k_asm); (case k6_0 => k_is); (case k7_0 => k_is); (case k8_0 => k_room); (case k9_0 => first | exact BindsTo.of_eq rfl | exact binds_K (by k_in) rfl (by k_is) rfl rfl rfl | fail "k_enter: no rule for these arguments"); (case c5_0 => decide); (case kB_0 => exact locs rfl); (case c2_0 => exact rfl); (case c3_0 => exact rfl); (case c4_0 => exact rfl); k_whole; intro _ _ _ _ _ _ B' _ _; (try dsimp only); (try k_lift B'); (try k_fold))
  k_with "o call type:tuple" => (k_here; (with_reducible show wpAny _ _ (call (Value.type _) [Value.ref _]) _ _ _); k_dflt (refine call_tuple_tup (News.isTup (by k_asm) (by k_extra "k_mem")) ?_))
  k_with "o call type:bytes" => (k_here; (with_reducible show wpAny _ _ (call (Value.type _) [Value.bytes _ _]) _ _ _); refine call_bytes_same ?_)
  k_with "o call type:tuple" => (k_here; (with_reducible show wpAny _ _ (call (Value.type _) [Value.ref _]) _ _ _); k_dflt (refine' tupleOf_ys ?F_18 ?N_18 ?hm_18 ?hz_18 ?_; (case F_18 => k_asm); (case N_18 => k_asm); (case hm_18 => k_extra "k_mem"); (case hz_18 => first | assumption | exact Nat.le_of_ble_eq_true rfl); k_whole); intro _ _ _ _ l1; (try k_lt l1); (try (revert l1; intro _)); (try k_sweep))
  k_with "o compareOp Eq ref ref" => (k_here; (with_reducible show wpAny _ _ (compareOp _ (Value.ref _) (Value.ref _)) _ _ _); k_dflt (refine' eq_tups_nil (by k_asm) ?ka_8 (by k_extra "k_mem") (by ktr_units) ?_; (case ka_8 => k_extra "k_mem")); (try simp only [reduceCtorEq, decide_false, decide_true, Bool.not_false, Bool.not_true]))
  k_with "o compareOp NotEq ref ref" => (k_here; (with_reducible show wpAny _ _ (compareOp _ (Value.ref _) (Value.ref _)) _ _ _); k_dflt (refine' ne_tups_nil (by k_asm) ?ka_9 (by k_extra "k_mem") (by ktr_units) ?_; (case ka_9 => k_extra "k_mem")); (try simp only [reduceCtorEq, decide_false, decide_true, Bool.not_false, Bool.not_true]))
  k_with "o subscriptTail" => (k_here; (with_reducible show wpAny _ _ (subscriptTail _ _ (Value.ref _) (Value.int 0 _)) _ _ _); k_dflt (refine item_ledT0 (News.isTup (by k_asm) (by k_extra "k_mem")) ?_))
  k_with "o subscriptTail" => (k_here; (with_reducible show wpAny _ _ (subscriptTail _ _ (Value.ref _) (Value.ref _)) _ _ _); k_dflt (refine' from_ledT1 ?F_13 ?N_13 ?ht_13 ?hz_13 ?_; (case F_13 => k_asm); (case N_13 => k_asm); (case ht_13 => k_extra "k_mem"); (case hz_13 => first | assumption | (simp only [List.length_map]; first | exact Nat.le_of_ble_eq_true rfl | lia | omega))); intro _ _ _ _ l1; (try k_lt l1); (try (revert l1; intro _)); (try k_sweep))
  k_with "o binaryOp Add ref ref" => (k_here; (with_reducible show wpAny _ _ (binaryOp _ (Value.ref _) (Value.ref _)) _ _ _); k_dflt (refine' add_ledTm ?F_14 ?N_14 ?ht_14 ?hb_14 ?hz_14 ?_; (case F_14 => k_asm); (case N_14 => k_asm); (case ht_14 => k_extra "k_mem"); (case hb_14 => k_extra "k_mem"); (case hz_14 => (simp only [List.length_map, List.length_nil]; first | exact Nat.le_of_ble_eq_true rfl | lia | omega))); intro _ _ _ _ _ _ _; (try k_sweep))
  k_with "o binaryOp Add ref ref" => (k_here; (with_reducible show wpAny _ _ (binaryOp _ (Value.ref _) (Value.ref _)) _ _ _); k_dflt (refine' add_ledT1 ?F_15 ?N_15 ?ht_15 ?hb_15 ?hz_15 ?_; (case F_15 => k_asm); (case N_15 => k_asm); (case ht_15 => k_extra "k_mem"); (case hb_15 => k_extra "k_mem"); (case hz_15 => (simp only [List.length_map, List.length_nil]; first | exact Nat.le_of_ble_eq_true rfl | lia | omega))); intro _ _ _ _ l1; (try k_lt l1); (try (revert l1; intro _)); (try k_sweep))
  k_with "o binaryOp Add ref ref" => (k_here; (with_reducible show wpAny _ _ (binaryOp _ (Value.ref _) (Value.ref _)) _ _ _); k_dflt (refine' add_ledT0 ?F_16 ?N_16 ?ht_16 ?hb_16 ?hz_16 ?_; (case F_16 => k_asm); (case N_16 => k_asm); (case ht_16 => k_extra "k_mem"); (case hb_16 => k_extra "k_mem"); (case hz_16 => (simp only [List.length_map, List.length_nil]; first | exact Nat.le_of_ble_eq_true rfl | lia | omega))))
  k_with "tbn_conj" => first | exact abv_nil | assumption | exact abv_one (by assumption) | (refine abv_next (by first | assumption | exact And.left (by assumption) | lia | omega) ?_; k_extra "tbn_conj") | exact abv_oneA (by first | assumption | exact And.right (by assumption) | exact And.right (And.right (by assumption))) | (refine abv_all (by assumption) ?_; k_extra "tbn_conj") | (refine abv_allA (by first | assumption | exact And.right (by assumption) | exact And.right (And.right (by assumption))) ?_; k_extra "tbn_conj") | (refine abv_allS (by assumption) (by simp only [List.cons_append, List.append_assoc, List.nil_append]) ?_; k_extra "tbn_conj") | (refine abv_app ?_ ?_ <;> k_extra "tbn_conj")
  k_with "o mem9" => (with_reducible first | exact List.mem_cons_self | (refine List.mem_cons_of_mem _ ?_; k_extra "o mem9") | (refine List.mem_append_right _ ?_; k_extra "o mem9") | (refine List.mem_append_left _ ?_; k_extra "o mem9") | assumption)
  k_with "o subv" => (with_reducible first | exact sub_rfl | exact sub_le | (refine sub_tl ?_; k_extra "o subv") | (refine sub_ri ?_; k_extra "o subv") | (refine sub_lf ?_; k_extra "o subv"))
  k_with "o sub9" => first | k_extra "o subv" | exact sub_nil | ((with_reducible refine sub_cons ?_ ?_); (k_extra "o mem9"); k_extra "o sub9") | ((with_reducible refine sub_app ?_ ?_); k_extra "o sub9"; k_extra "o sub9")
  k_with "ktd_rel" => first | assumption | (refine IsFrm.mono ?_ (by assumption); k_extra "o sub9") | (refine IsTag.mono ?_ (by assumption); k_extra "o sub9") | (refine TagsAt.mono ?_ (by assumption); k_extra "o sub9") | (refine RowsAt.mono ?_ (by assumption); k_extra "o sub9") | exact IsFrm.of (by k_extra "k_mem") (by k_extra "k_mem") (by k_extra "k_mem") | exact IsTag.of (by k_extra "k_mem") (by k_extra "k_mem")
  k_with "k_all" => first | exact allNe_of (by assumption) (by first | exact Nat.le_refl _ | exact Nat.le_succ _ | lia | omega) | exact allNe_of (ktn_ltOf (by first | assumption | exact And.right (by assumption) | exact And.right (And.right (by assumption)))) (by first | exact Nat.le_refl _ | exact Nat.le_succ _ | lia | omega)
  k_with "o compareOp NotIn int ref" => (k_here; (with_reducible show wpAny _ _ (compareOp _ (Value.int _ _) (Value.ref 206)) _ _ _); k_dflt (refine' kinds_notin ?F_25 ?X_25 ?_; (case F_25 => k_asm); (case X_25 => k_asm)); (first | rw [decide_eq_true (by assumption)] | rw [decide_eq_false (by (first | lia | omega))]); (try simp only [Bool.not_true, Bool.not_false]))
  k_with "o compareOp In int ref" => (k_here; (with_reducible show wpAny _ _ (compareOp _ (Value.int _ _) (Value.ref 206)) _ _ _); k_dflt (refine' kinds_in ?F_27 ?X_27 ?_; (case F_27 => k_asm); (case X_27 => k_asm)); (first | rw [decide_eq_true (by assumption)] | rw [decide_eq_false (by (first | lia | omega))]); (try simp only [Bool.not_true, Bool.not_false]))
  k_with "o binaryOp Add bytes bytes" => (k_here; (with_reducible show wpAny _ _ (binaryOp Operator.Add (Value.bytes _ _) (Value.bytes _ _)) _ _ _); (refine KBa.add_K (by assumption) (by assumption) (by first | lia | omega | (simp only [putL_length, List.length_append, List.length_nil, tagL_length, flat_length, sumL_length]; first | exact Nat.le_of_ble_eq_true rfl | lia | omega)) ?_); intro _ _ _)
  k_with "o call builtin:len" => (k_here; (with_reducible show wpAny _ _ (call (Value.builtin "len") [Value.bytes _ _]) _ _ _); (refine KBw.len_K (by assumption) (by first | lia | omega | (simp only [List.length_append, putL_length, flat_length, List.length_nil]; first | exact Nat.le_of_ble_eq_true rfl | lia | omega)) ?_); (try simp only [List.length_append, putL_length, flat_length, List.length_nil]))
  k_with "o call type:bytes" => (k_here; (with_reducible show wpAny _ _ (call (Value.type "bytes") [Value.int _ _]) _ _ _); refine call_bytes_z (by (first | lia | omega)) ?_; intro _ _)
  k_with "o call builtin:len" => (k_here; (with_reducible show wpAny _ _ (call (Value.builtin _) [Value.ref _]) _ _ _); k_dflt (refine len_ledT (News.isTup (by k_asm) (by k_extra "k_mem")) (by (first | lia | omega)) ?_))
  k_with "o call ref" => (k_here; (with_reducible show wpAny _ _ (call (Value.ref 170) _) _ _ _); refine stop_of ?_)
  k_with "o call ref" => (k_here; (with_reducible show wpAny _ _ (call (Value.ref 170) _) _ _ _); k_dflt (refine' Ctr.use (put_number2_ok _ _ _ _ _ ?c1_28 ?c2_28) ?k1_28 ?k2_28 ?k3_28 ?k4_28 ?k5_28 ?kK_28 ?kd_28 ?ku_28 ?_; (case k1_28 => k_asm); (case k2_28 => k_asm); (case k3_28 => k_asm); (case k4_28 => k_asm); (case k5_28 => k_asm); (case kK_28 => first | exact rfl | assumption); (case kd_28 => ktr_room); (case ku_28 => ktr_units); (case c1_28 => decide); (case c2_28 => decide); k_whole; intros; (try dsimp only); (try k_sweep); (try k_fold)))
  k_with "o call ref" => (k_here; (with_reducible show wpAny _ _ (call (Value.ref 170) _) _ _ _); k_dflt (refine' Ctr.use (put_number6_ok _ _ _ _ _ ?c1_29 ?c2_29) ?k1_29 ?k2_29 ?k3_29 ?k4_29 ?k5_29 ?kK_29 ?kd_29 ?ku_29 ?_; (case k1_29 => k_asm); (case k2_29 => k_asm); (case k3_29 => k_asm); (case k4_29 => k_asm); (case k5_29 => k_asm); (case kK_29 => first | exact rfl | assumption); (case kd_29 => ktr_room); (case ku_29 => ktr_units); (case c1_29 => decide); (case c2_29 => decide); k_whole; intros; (try dsimp only); (try k_sweep); (try k_fold)))
  k_with "o call ref" => (k_here; (with_reducible show wpAny _ _ (call (Value.ref 275) _) _ _ _); refine stop_of ?_)
  k_with "o call ref" => (k_here; (with_reducible show wpAny _ _ (call (Value.ref 275) _) _ _ _); k_dflt (refine' Ctr.use (pack_tag_ok _ _ _ _ ?c1_30 ?c2_30) ?k1_30 ?k2_30 ?k3_30 ?k4_30 ?k5_30 ?kK_30 ?kd_30 ?ku_30 ?_; (case k1_30 => k_asm); (case k2_30 => k_asm); (case k3_30 => k_asm); (case k4_30 => k_asm); (case k5_30 => k_asm); (case kK_30 => first | exact rfl | assumption); (case kd_30 => ktr_room); (case ku_30 => ktr_units); (case c1_30 => k_extra "ktd_rel"); (case c2_30 => assumption); k_whole; intros; (try dsimp only); (try k_sweep); (try k_fold)))
  k_with "o call ref" => (k_here; (with_reducible show wpAny _ _ (call (Value.ref 165) _) _ _ _); refine stop_of ?_)
  k_with "o call ref" => (k_here; (with_reducible show wpAny _ _ (call (Value.ref 165) _) _ _ _); k_dflt (refine' Ctr.use (frame_sum_ok _ _ _ _ _ ?c1_31 ?c2_31) ?k1_31 ?k2_31 ?k3_31 ?k4_31 ?k5_31 ?kK_31 ?kd_31 ?ku_31 ?_; (case k1_31 => k_asm); (case k2_31 => k_asm); (case k3_31 => k_asm); (case k4_31 => k_asm); (case k5_31 => k_asm); (case kK_31 => first | exact rfl | assumption); (case kd_31 => ktr_room); (case ku_31 => ktr_units); (case c1_31 => assumption); (case c2_31 => (simp only [List.length_append, putL_length, flat_length, List.length_nil]; first | exact Nat.le_of_ble_eq_true rfl | lia | omega)); k_whole; intros; (try dsimp only); (try k_sweep); (try k_fold)))
  k_with "o eval ListComp" => (k_here; k_dflt (refine ListComp_tup (by k_asm) (by rfl) (by decide) (by rfl) (by decide) (by rfl) ?_))
  k_with "o getMethod bytes" => (k_here; (with_reducible refine method_join ?_))
  k_with "o call builtin:bytes.join" => (k_here; (with_reducible show wpAny _ _ (call (Value.builtin "bytes.join") [Value.bytes _ _, Value.ref _]) _ _ _); (refine join_ledR (News.isList (by k_asm) (by k_extra "k_mem")) (by assumption) (by assumption) ?_); intro _ _ _ _)
  obtain ⟨dx, tu0, a, b, c, d, e, hx, hdx, htu⟩ := hf
  have hlen : (xs.map Value.ref).length ≤ sizeLine := by rw [List.length_map, ht.length, sizeLine_eq]; (first | lia | omega)
  have hb0 : KBw.bInts (#[] : Array UInt8) = [] := rfl
  have hxs : (xs.map Value.ref).length ≤ 4 := by rw [List.length_map, ht.length]; (first | lia | omega)
  intro p loose mean mg mb dp un gd cn cs ad ccd cl outer A₀ base h₀ L m s Q E B F X N T hk hd' hu hret
  k_steps
  refine ⟨tu0, xs.map .ref, news, rfl, rfl, by k_asm, by k_asm, htu, hlen, fun g => compRest_inv (n := (xs.map Value.ref).length) (fun i ys nw => ∃ l : List (Array UInt8 × Tok), ys = bvs l ∧ nw = news ∧ l.map (fun p => KBw.bInts p.1) = (ts.take i).map tagL) ?_ ?_ _ 0 [] _ (Nat.zero_add _) ⟨[], rfl, rfl, rfl⟩⟩
  · rintro i ys nw v R hi ⟨l, rfl, rfl, hl⟩ hv hR I oI C oC D m₂ h tk E' hNs hx2 F2 N2 off ne
    obtain ⟨xt, hxt, rfl⟩ : ∃ xt, xs[i]? = some xt ∧ Value.ref xt = v := by simpa using hv
    obtain ⟨t, hti, htag⟩ := ht.get hxt
    have hrow : RowOk t := hr t (List.mem_of_getElem? hti)
    k_steps
    rename_i b9 t9 hb9 h9 tk9 F9 N9
    exact LCg.CompEnd.intro F9 N9 nw (fun q hq => by simp only [List.mem_cons, hq, or_true]) off htu (hR _ _ ⟨l ++ [(b9, t9)], by simp [bvs], rfl, by rw [take_snoc hti, List.map_append, List.map_append, hl]; simp [hb9]⟩)
  · rintro ys nw ⟨l, rfl, rfl, hl⟩
    have ht9 : ts.take (xs.map Value.ref).length = ts := by rw [List.length_map, ht.length]; simp
    rw [ht9] at hl
    have hz9 : (l.map fun p => p.1.size).sum ≤ 16777216 := by rw [sizes_sum hl]; (first | lia | omega)
    k_steps
    all_goals
      refine' hret _ _ ?e1 _ _ ?e3 (News.perm ?e4 ?e5)
      (case e1 => assumption)
      (case e4 => assumption)
      (case e3 => assumption)
      (case e5 => (intro q9 hq9; simp only [List.mem_cons]; simp only [hq9, or_true]))
end
end
section
open PySem PySem.W PyProof.Rows PySem.Calls PySem.Spec
set_option maxRecDepth 100000
set_option maxHeartbeats 8000000
section
theorem get_number_ok (w : World) (news : Led) (b : Array UInt8) (tb : Tok) (ks : List Int) (hk9 : KBw.bInts b = ks) (hz : ks.length ≤ 2000) (at9 : Int) (ta : Tok) (m9 : Int) (tm : Tok) (h0 : 0 ≤ at9) (hm0 : 0 ≤ m9) (hm : m9 ≤ 6) (h1 : at9 + m9 ≤ ks.length) :
    Ctr w 177 5 40 [.bytes b tb, .int at9 ta, .int m9 tm] news (fun R => ∀ t, R news (.int (getL ks at9.toNat m9.toNat) t)) := by
  k_with_none
  w_top off
  k_with "k_mem" => first | assumption | exact List.mem_cons_self | (refine List.mem_cons_of_mem _ ?_; k_extra "k_mem") | (refine List.mem_append_right _ ?_; k_extra "k_mem") | (refine List.mem_append_left _ ?_; k_extra "k_mem")
  k_with "k_all" => assumption
  k_with "ktr_room" => ((try simp only [depth_under_make, depth_under_kw, depth_in1, depth_deeper, depth_caller]); (try dsimp only [ktrTop]); first | exact room0 (by with_reducible assumption) | exact room1 (by with_reducible assumption) rfl | exact room2 (by with_reducible assumption) rfl | exact room3 (by with_reducible assumption) rfl | exact Nat.le_of_ble_eq_true rfl | omega)
  k_with "k_room" => ktr_room
  k_with "ktr_units" => ((try simp only [units_in1, units_deeper, Around.mark_units, units_caller]); (try dsimp only [ktrTop]); first | exact room0 (by with_reducible assumption) | exact room1 (by with_reducible assumption) rfl | exact room2 (by with_reducible assumption) rfl | exact room3 (by with_reducible assumption) rfl | exact Nat.le_of_ble_eq_true rfl | ((have hcL9 := cLine_is); omega))
  k_with "k_enter" => (refine' code_defC ?k1_20 ?k2_20 ?k3_20 ?k4_20 ?k5_20 ?kA_20 ?kF_20 ?kK_20 ?k6_20 ?k7_20 ?k8_20 ?k9_20 ?kB_20 ?kD_20 ?_ ?c2_20 ?c3_20 ?c4_20; (case kA_20 => exact rfl); (case kF_20 => exact rfl); (case kK_20 => first | exact rfl | assumption); (case k1_20 => k_asm); (case k2_20 => k_asm); (case k3_20 => k_asm); (case k4_20 => k_asm); (case k5_20 => k_asm); (case k6_20 => k_is); (case k7_20 => k_is); (case k8_20 => k_room); (case k9_20 => first | exact BindsTo.of_eq rfl | exact binds_K (by k_in) rfl (by k_is) rfl rfl rfl | fail "k_enter: no rule for these arguments"); (case kB_20 => exact rfl); (case kD_20 => decide +kernel); (case c2_20 => exact rfl); (case c3_20 => exact rfl); (case c4_20 => exact rfl); k_whole; intro _ _ _ _ _ _ _ N' Y' B' _ _ l1; (try k_lt l1); k_cells Y'; (try simp only [List.cons_append, List.nil_append] at N'); (try dsimp only); (try k_lift B'); (try k_fold))
  k_with "k_enter" => (refine' code_def ?k1_0 ?k2_0 ?k3_0 ?k4_0 ?k5_0 ?kA_0 ?kF_0 ?kK_0 ?k6_0 ?k7_0 ?k8_0 ?k9_0 ?kB_0 ?_ ?c2_0 ?c3_0 ?c4_0 ?c5_0; (case kA_0 => exact rfl); (case kF_0 => exact rfl); (case kK_0 => first | exact rfl | assumption); (case k1_0 => k_asm); (case k2_0 => k_asm); (case k3_0 => k_asm); (case k4_0 => k_asm); (case k5_0 => k_asm); (case k6_0 => k_is); (case k7_0 => k_is); (case k8_0 => k_room); (case k9_0 => first | exact BindsTo.of_eq rfl | exact binds_K (by k_in) rfl (by k_is) rfl rfl rfl | fail "k_enter: no rule for these arguments"); (case c5_0 => decide); (case kB_0 => exact locs rfl); (case c2_0 => exact rfl); (case c3_0 => exact rfl); (case c4_0 => exact rfl); k_whole; intro _ _ _ _ _ _ B' _ _; (try dsimp only); (try k_lift B'); (try k_fold))
  k_with "o call type:tuple" => (k_here; (with_reducible show wpAny _ _ (call (Value.type _) [Value.ref _]) _ _ _); k_dflt (refine call_tuple_tup (News.isTup (by k_asm) (by k_extra "k_mem")) ?_))
  k_with "o call type:bytes" => (k_here; (with_reducible show wpAny _ _ (call (Value.type _) [Value.bytes _ _]) _ _ _); refine call_bytes_same ?_)
  k_with "o call type:tuple" => (k_here; (with_reducible show wpAny _ _ (call (Value.type _) [Value.ref _]) _ _ _); k_dflt (refine' tupleOf_ys ?F_18 ?N_18 ?hm_18 ?hz_18 ?_; (case F_18 => k_asm); (case N_18 => k_asm); (case hm_18 => k_extra "k_mem"); (case hz_18 => first | assumption | exact Nat.le_of_ble_eq_true rfl); k_whole); intro _ _ _ _ l1; (try k_lt l1); (try (revert l1; intro _)); (try k_sweep))
  k_with "o compareOp Eq ref ref" => (k_here; (with_reducible show wpAny _ _ (compareOp _ (Value.ref _) (Value.ref _)) _ _ _); k_dflt (refine' eq_tups_nil (by k_asm) ?ka_8 (by k_extra "k_mem") (by ktr_units) ?_; (case ka_8 => k_extra "k_mem")); (try simp only [reduceCtorEq, decide_false, decide_true, Bool.not_false, Bool.not_true]))
  k_with "o compareOp NotEq ref ref" => (k_here; (with_reducible show wpAny _ _ (compareOp _ (Value.ref _) (Value.ref _)) _ _ _); k_dflt (refine' ne_tups_nil (by k_asm) ?ka_9 (by k_extra "k_mem") (by ktr_units) ?_; (case ka_9 => k_extra "k_mem")); (try simp only [reduceCtorEq, decide_false, decide_true, Bool.not_false, Bool.not_true]))
  k_with "o subscriptTail" => (k_here; (with_reducible show wpAny _ _ (subscriptTail _ _ (Value.ref _) (Value.int 0 _)) _ _ _); k_dflt (refine item_ledT0 (News.isTup (by k_asm) (by k_extra "k_mem")) ?_))
  k_with "o subscriptTail" => (k_here; (with_reducible show wpAny _ _ (subscriptTail _ _ (Value.ref _) (Value.ref _)) _ _ _); k_dflt (refine' from_ledT1 ?F_10 ?N_10 ?ht_10 ?hz_10 ?_; (case F_10 => k_asm); (case N_10 => k_asm); (case ht_10 => k_extra "k_mem"); (case hz_10 => first | assumption | (simp only [List.length_map]; first | exact Nat.le_of_ble_eq_true rfl | omega))); intro _ _ _ _ l1; (try k_lt l1); (try (revert l1; intro _)); (try k_sweep))
  k_with "o binaryOp Add ref ref" => (k_here; (with_reducible show wpAny _ _ (binaryOp _ (Value.ref _) (Value.ref _)) _ _ _); k_dflt (refine' add_ledTm ?F_32 ?N_32 ?ht_32 ?hb_32 ?hz_32 ?_; (case F_32 => k_asm); (case N_32 => k_asm); (case ht_32 => k_extra "k_mem"); (case hb_32 => k_extra "k_mem"); (case hz_32 => (simp only [List.length_map, List.length_nil]; first | exact Nat.le_of_ble_eq_true rfl | omega))); intro _ _ _ _ _ _ _; (try k_sweep))
  k_with "o binaryOp Add ref ref" => (k_here; (with_reducible show wpAny _ _ (binaryOp _ (Value.ref _) (Value.ref _)) _ _ _); k_dflt (refine' add_ledT1 ?F_11 ?N_11 ?ht_11 ?hb_11 ?hz_11 ?_; (case F_11 => k_asm); (case N_11 => k_asm); (case ht_11 => k_extra "k_mem"); (case hb_11 => k_extra "k_mem"); (case hz_11 => (simp only [List.length_map, List.length_nil]; first | exact Nat.le_of_ble_eq_true rfl | omega))); intro _ _ _ _ l1; (try k_lt l1); (try (revert l1; intro _)); (try k_sweep))
  k_with "o binaryOp Add ref ref" => (k_here; (with_reducible show wpAny _ _ (binaryOp _ (Value.ref _) (Value.ref _)) _ _ _); k_dflt (refine' add_ledT0 ?F_12 ?N_12 ?ht_12 ?hb_12 ?hz_12 ?_; (case F_12 => k_asm); (case N_12 => k_asm); (case ht_12 => k_extra "k_mem"); (case hb_12 => k_extra "k_mem"); (case hz_12 => (simp only [List.length_map, List.length_nil]; first | exact Nat.le_of_ble_eq_true rfl | omega))))
  k_with "tbn_conj" => first | exact abv_nil | assumption | exact abv_one (by assumption) | (refine abv_next (by first | assumption | exact And.left (by assumption) | omega) ?_; k_extra "tbn_conj") | exact abv_oneA (by first | assumption | exact And.right (by assumption) | exact And.right (And.right (by assumption))) | (refine abv_all (by assumption) ?_; k_extra "tbn_conj") | (refine abv_allA (by first | assumption | exact And.right (by assumption) | exact And.right (And.right (by assumption))) ?_; k_extra "tbn_conj") | (refine abv_allS (by assumption) (by simp only [List.cons_append, List.append_assoc, List.nil_append]) ?_; k_extra "tbn_conj") | (refine abv_app ?_ ?_ <;> k_extra "tbn_conj")
  k_with "o mem9" => (with_reducible first | exact List.mem_cons_self | (refine List.mem_cons_of_mem _ ?_; k_extra "o mem9") | (refine List.mem_append_right _ ?_; k_extra "o mem9") | (refine List.mem_append_left _ ?_; k_extra "o mem9") | assumption)
  k_with "o subv" => (with_reducible first | exact sub_rfl | exact sub_le | (refine sub_tl ?_; k_extra "o subv") | (refine sub_ri ?_; k_extra "o subv") | (refine sub_lf ?_; k_extra "o subv"))
  k_with "o sub9" => first | k_extra "o subv" | exact sub_nil | ((with_reducible refine sub_cons ?_ ?_); (k_extra "o mem9"); k_extra "o sub9") | ((with_reducible refine sub_app ?_ ?_); k_extra "o sub9"; k_extra "o sub9")
  k_with "ktd_rel" => first | assumption | (refine IsFrm.mono ?_ (by assumption); k_extra "o sub9") | (refine IsTag.mono ?_ (by assumption); k_extra "o sub9") | (refine TagsAt.mono ?_ (by assumption); k_extra "o sub9") | (refine RowsAt.mono ?_ (by assumption); k_extra "o sub9") | exact IsFrm.of (by k_extra "k_mem") (by k_extra "k_mem") (by k_extra "k_mem") | exact IsTag.of (by k_extra "k_mem") (by k_extra "k_mem")
  k_with "k_all" => first | exact allNe_of (by assumption) (by first | exact Nat.le_refl _ | exact Nat.le_succ _ | omega) | exact allNe_of (ktn_ltOf (by first | assumption | exact And.right (by assumption) | exact And.right (And.right (by assumption)))) (by first | exact Nat.le_refl _ | exact Nat.le_succ _ | omega)
  k_with "o call builtin:len" => (k_here; (with_reducible show wpAny _ _ (call (Value.builtin "len") [Value.bytes _ _]) _ _ _); (refine KBw.len_K (by assumption) (by omega) ?_))
  k_with "o subscriptTail" => (k_here; (with_reducible show wpAny _ _ (subscriptTail _ _ (Value.bytes _ _) (Value.ref _)) _ _ _); (refine' slice_oct (s := ⟨_, _, _, _, _⟩) ?F_33 ?N_33 ?hk_33 ?h0_33 ?h1_33 ?h2_33 ?hz_33 ?_; (case F_33 => assumption); (case N_33 => assumption); (case hk_33 => assumption); (case h0_33 => first | exact Nat.le_of_ble_eq_true rfl | omega); (case h1_33 => first | exact Nat.le_of_ble_eq_true rfl | omega); (case h2_33 => first | exact Nat.le_of_ble_eq_true rfl | omega); (case hz_33 => first | exact Nat.le_of_ble_eq_true rfl | omega)); intro _ _ _ _ _ _ _)
  k_with "o exec For Name Subscript cons nil" => (k_here; (rename Fr _ _ _ _ => lF'); (with_unfolding_all refine' For_invVF lF' ?k1_34 ?k2_34 ?_; (case k1_34 => exact rfl); (case k2_34 => exact rfl); k_whole))
  k_with "o binaryOp LShift int int" => (k_here; (with_reducible show wpAny _ _ (binaryOp Operator.LShift (Value.int _ _) (Value.int _ _)) _ _ _); refine lshift_int_small (by decide) (by decide) (And.right (by assumption)) ?_)
  k_with "o pyIter bytes" => ((with_reducible show wpAny _ _ (pyIter (Value.bytes _ _)) (fun it s₂ => LoopAtV _ _ _ _ _ _ _ _ _ it s₂) _ _); (with_unfolding_all refine' iterBytes_accN (y := Str.ofString "found") gstep ?hk_35 ?hh_35 ?F_35 ?N_35 ?hy_35 (fun i' k' t' a' ta' h' tk' own' hi' hlo' hhi' ha' hoff' F' N' => ?_) (fun u' t' h' tk' F' N' => ?_); (case hk_35 => assumption); (case hh_35 => rfl); (case F_35 => assumption); (case N_35 => assumption); (case hy_35 => rfl)); (iterate 1 (have hb9 := fold_bits (by assumption) hi' (by simp only [List.length_take, List.length_drop]; first | exact Nat.le_of_ble_eq_true rfl | omega) ha')); (all_goals (try simp only [List.nil_append, List.cons_append, List.append_nil] at N')); (all_goals (try k_fold)))
  k_with "o InvEndN" => (refine InvEndN.intro (by assumption) (by assumption) ⟨rfl, ⟨_, by with_unfolding_all rfl⟩, by kba_same⟩ (by rfl) (fun p hp => List.mem_append_left _ hp) (fun p hp => List.mem_append_right _ hp))
  intro p loose mean mg mb dp un gd cn cs ad ccd cl outer A₀ base h₀ L m s Q E B F X N T hk hd' hu hret
  k_steps
  all_goals
    have e9 : (at9 + m9 - at9).toNat = m9.toNat := by congr 1; omega
    rw [e9]
    exact hret _ _ _ (by assumption) (by assumption)
end
end
section
open PySem PySem.W PyProof.Rows PySem.Calls PySem.Spec
set_option maxRecDepth 100000
set_option maxHeartbeats 8000000
section
theorem unpack_tag_ok (w : World) (news : Led) (b : Array UInt8) (tb : Tok) (ks : List Int) (hk9 : KBw.bInts b = ks) (hz : ks.length ≤ 2000) (at9 : Int) (ta : Tok) (t : TagV) (hr : RowOk t) (h0 : 0 ≤ at9) (h1 : at9 + 4 ≤ ks.length) (hg1 : getL ks at9.toNat (2 : Int).toNat = t.k) (hg2 : getL ks (at9 + 2).toNat (2 : Int).toNat = tagW t) :
    Ctr w 295 12 90 [.bytes b tb, .int at9 ta] news (fun R => ∀ tl x' t', Abv news tl → IsTag w (tl ++ news) x' t' → SameTag t t' → R (tl ++ news) (.ref x')) := by
  k_with_none
  w_top off
  k_with "k_mem" => first | assumption | exact List.mem_cons_self | (refine List.mem_cons_of_mem _ ?_; k_extra "k_mem") | (refine List.mem_append_right _ ?_; k_extra "k_mem") | (refine List.mem_append_left _ ?_; k_extra "k_mem")
  k_with "k_all" => assumption
  k_with "ktr_room" => ((try simp only [depth_under_make, depth_under_kw, depth_in1, depth_deeper, depth_caller]); (try dsimp only [ktrTop]); first | exact room0 (by with_reducible assumption) | exact room1 (by with_reducible assumption) rfl | exact room2 (by with_reducible assumption) rfl | exact room3 (by with_reducible assumption) rfl | exact Nat.le_of_ble_eq_true rfl | lia | omega)
  k_with "k_room" => ktr_room
  k_with "ktr_units" => ((try simp only [units_in1, units_deeper, Around.mark_units, units_caller]); (try dsimp only [ktrTop]); first | exact room0 (by with_reducible assumption) | exact room1 (by with_reducible assumption) rfl | exact room2 (by with_reducible assumption) rfl | exact room3 (by with_reducible assumption) rfl | exact Nat.le_of_ble_eq_true rfl | ((have hcL9 := cLine_is); (first | lia | omega)))
  k_with "k_enter" => (refine' code_defC ?k1_20 ?k2_20 ?k3_20 ?k4_20 ?k5_20 ?kA_20 ?kF_20 ?kK_20 ?k6_20 ?k7_20 ?k8_20 ?k9_20 ?kB_20 ?kD_20 ?_ ?c2_20 ?c3_20 ?c4_20; (case kA_20 => exact rfl); (case kF_20 => exact rfl); (case kK_20 => first | exact rfl | assumption); (case k1_20 => k_asm); (case k2_20 => k_asm); (case k3_20 => k_asm); (case k4_20 => k_asm); (case k5_20 => k_asm); (case k6_20 => k_is); (case k7_20 => k_is); (case k8_20 => k_room); (case k9_20 => first | exact BindsTo.of_eq rfl | exact binds_K (by k_in) rfl (by k_is) rfl rfl rfl | fail "k_enter: no rule for these arguments"); (case kB_20 => exact rfl); (case kD_20 => decide +kernel); (case c2_20 => exact rfl); (case c3_20 => exact rfl); (case c4_20 => exact rfl); k_whole; intro _ _ _ _ _ _ _ N' Y' B' _ _ l1; (try k_lt l1); k_cells Y'; (try simp only [List.cons_append, List.nil_append] at N'); (try dsimp only); (try k_lift B'); (try k_fold))
  k_with "k_enter" => (refine' code_def ?k1_0 ?k2_0 ?k3_0 ?k4_0 ?k5_0 ?kA_0 ?kF_0 ?kK_0 ?k6_0 ?k7_0 ?k8_0 ?k9_0 ?kB_0 ?_ ?c2_0 ?c3_0 ?c4_0 ?c5_0; (case kA_0 => exact rfl); (case kF_0 => exact rfl); (case kK_0 => first | exact rfl | assumption); (case k1_0 => k_asm); (case k2_0 => k_asm); (case k3_0 => k_asm); (case k4_0 => k_asm); (case k5_0 => k_asm); (case k6_0 => k_is); (case k7_0 => k_is); (case k8_0 => k_room); (case k9_0 => first | exact BindsTo.of_eq rfl | exact binds_K (by k_in) rfl (by k_is) rfl rfl rfl | fail "k_enter: no rule for these arguments"); (case c5_0 => decide); (case kB_0 => exact locs rfl); (case c2_0 => exact rfl); (case c3_0 => exact rfl); (case c4_0 => exact rfl); k_whole; intro _ _ _ _ _ _ B' _ _; (try dsimp only); (try k_lift B'); (try k_fold))
  k_with "o call type:tuple" => (k_here; (with_reducible show wpAny _ _ (call (Value.type _) [Value.ref _]) _ _ _); k_dflt (refine call_tuple_tup (News.isTup (by k_asm) (by k_extra "k_mem")) ?_))
  k_with "o call type:bytes" => (k_here; (with_reducible show wpAny _ _ (call (Value.type _) [Value.bytes _ _]) _ _ _); refine call_bytes_same ?_)
  k_with "o call type:tuple" => (k_here; (with_reducible show wpAny _ _ (call (Value.type _) [Value.ref _]) _ _ _); k_dflt (refine' tupleOf_ys ?F_18 ?N_18 ?hm_18 ?hz_18 ?_; (case F_18 => k_asm); (case N_18 => k_asm); (case hm_18 => k_extra "k_mem"); (case hz_18 => first | assumption | exact Nat.le_of_ble_eq_true rfl); k_whole); intro _ _ _ _ l1; (try k_lt l1); (try (revert l1; intro _)); (try k_sweep))
  k_with "o compareOp Eq ref ref" => (k_here; (with_reducible show wpAny _ _ (compareOp _ (Value.ref _) (Value.ref _)) _ _ _); k_dflt (refine' eq_tups_nil (by k_asm) ?ka_8 (by k_extra "k_mem") (by ktr_units) ?_; (case ka_8 => k_extra "k_mem")); (try simp only [reduceCtorEq, decide_false, decide_true, Bool.not_false, Bool.not_true]))
  k_with "o compareOp NotEq ref ref" => (k_here; (with_reducible show wpAny _ _ (compareOp _ (Value.ref _) (Value.ref _)) _ _ _); k_dflt (refine' ne_tups_nil (by k_asm) ?ka_9 (by k_extra "k_mem") (by ktr_units) ?_; (case ka_9 => k_extra "k_mem")); (try simp only [reduceCtorEq, decide_false, decide_true, Bool.not_false, Bool.not_true]))
  k_with "o subscriptTail" => (k_here; (with_reducible show wpAny _ _ (subscriptTail _ _ (Value.ref _) (Value.int 0 _)) _ _ _); k_dflt (refine item_ledT0 (News.isTup (by k_asm) (by k_extra "k_mem")) ?_))
  k_with "o subscriptTail" => (k_here; (with_reducible show wpAny _ _ (subscriptTail _ _ (Value.ref _) (Value.ref _)) _ _ _); k_dflt (refine' from_ledT1 ?F_13 ?N_13 ?ht_13 ?hz_13 ?_; (case F_13 => k_asm); (case N_13 => k_asm); (case ht_13 => k_extra "k_mem"); (case hz_13 => first | assumption | (simp only [List.length_map]; first | exact Nat.le_of_ble_eq_true rfl | lia | omega))); intro _ _ _ _ l1; (try k_lt l1); (try (revert l1; intro _)); (try k_sweep))
  k_with "o binaryOp Add ref ref" => (k_here; (with_reducible show wpAny _ _ (binaryOp _ (Value.ref _) (Value.ref _)) _ _ _); k_dflt (refine' add_ledTm ?F_14 ?N_14 ?ht_14 ?hb_14 ?hz_14 ?_; (case F_14 => k_asm); (case N_14 => k_asm); (case ht_14 => k_extra "k_mem"); (case hb_14 => k_extra "k_mem"); (case hz_14 => (simp only [List.length_map, List.length_nil]; first | exact Nat.le_of_ble_eq_true rfl | lia | omega))); intro _ _ _ _ _ _ _; (try k_sweep))
  k_with "o binaryOp Add ref ref" => (k_here; (with_reducible show wpAny _ _ (binaryOp _ (Value.ref _) (Value.ref _)) _ _ _); k_dflt (refine' add_ledT1 ?F_15 ?N_15 ?ht_15 ?hb_15 ?hz_15 ?_; (case F_15 => k_asm); (case N_15 => k_asm); (case ht_15 => k_extra "k_mem"); (case hb_15 => k_extra "k_mem"); (case hz_15 => (simp only [List.length_map, List.length_nil]; first | exact Nat.le_of_ble_eq_true rfl | lia | omega))); intro _ _ _ _ l1; (try k_lt l1); (try (revert l1; intro _)); (try k_sweep))
  k_with "o binaryOp Add ref ref" => (k_here; (with_reducible show wpAny _ _ (binaryOp _ (Value.ref _) (Value.ref _)) _ _ _); k_dflt (refine' add_ledT0 ?F_16 ?N_16 ?ht_16 ?hb_16 ?hz_16 ?_; (case F_16 => k_asm); (case N_16 => k_asm); (case ht_16 => k_extra "k_mem"); (case hb_16 => k_extra "k_mem"); (case hz_16 => (simp only [List.length_map, List.length_nil]; first | exact Nat.le_of_ble_eq_true rfl | lia | omega))))
  k_with "tbn_conj" => first | exact abv_nil | assumption | exact abv_one (by assumption) | (refine abv_next (by first | assumption | exact And.left (by assumption) | lia | omega) ?_; k_extra "tbn_conj") | exact abv_oneA (by first | assumption | exact And.right (by assumption) | exact And.right (And.right (by assumption))) | (refine abv_all (by assumption) ?_; k_extra "tbn_conj") | (refine abv_allA (by first | assumption | exact And.right (by assumption) | exact And.right (And.right (by assumption))) ?_; k_extra "tbn_conj") | (refine abv_allS (by assumption) (by simp only [List.cons_append, List.append_assoc, List.nil_append]) ?_; k_extra "tbn_conj") | (refine abv_app ?_ ?_ <;> k_extra "tbn_conj")
  k_with "o mem9" => (with_reducible first | exact List.mem_cons_self | (refine List.mem_cons_of_mem _ ?_; k_extra "o mem9") | (refine List.mem_append_right _ ?_; k_extra "o mem9") | (refine List.mem_append_left _ ?_; k_extra "o mem9") | assumption)
  k_with "o subv" => (with_reducible first | exact sub_rfl | exact sub_le | (refine sub_tl ?_; k_extra "o subv") | (refine sub_ri ?_; k_extra "o subv") | (refine sub_lf ?_; k_extra "o subv"))
  k_with "o sub9" => first | k_extra "o subv" | exact sub_nil | ((with_reducible refine sub_cons ?_ ?_); (k_extra "o mem9"); k_extra "o sub9") | ((with_reducible refine sub_app ?_ ?_); k_extra "o sub9"; k_extra "o sub9")
  k_with "ktd_rel" => first | assumption | (refine IsFrm.mono ?_ (by assumption); k_extra "o sub9") | (refine IsTag.mono ?_ (by assumption); k_extra "o sub9") | (refine TagsAt.mono ?_ (by assumption); k_extra "o sub9") | (refine RowsAt.mono ?_ (by assumption); k_extra "o sub9") | exact IsFrm.of (by k_extra "k_mem") (by k_extra "k_mem") (by k_extra "k_mem") | exact IsTag.of (by k_extra "k_mem") (by k_extra "k_mem")
  k_with "k_all" => first | exact allNe_of (by assumption) (by first | exact Nat.le_refl _ | exact Nat.le_succ _ | lia | omega) | exact allNe_of (ktn_ltOf (by first | assumption | exact And.right (by assumption) | exact And.right (And.right (by assumption)))) (by first | exact Nat.le_refl _ | exact Nat.le_succ _ | lia | omega)
  k_with "o call ref" => (k_here; (with_reducible show wpAny _ _ (call (Value.ref 177) _) _ _ _); refine stop_of ?_)
  k_with "o call ref" => (k_here; (with_reducible show wpAny _ _ (call (Value.ref 177) _) _ _ _); k_dflt (refine' Ctr.use (get_number_ok _ _ _ _ _ ?c0_36 ?c1_36 _ _ _ _ ?c2_36 ?c3_36 ?c4_36 ?c5_36) ?k1_36 ?k2_36 ?k3_36 ?k4_36 ?k5_36 ?kK_36 ?kd_36 ?ku_36 ?_; (case k1_36 => k_asm); (case k2_36 => k_asm); (case k3_36 => k_asm); (case k4_36 => k_asm); (case k5_36 => k_asm); (case kK_36 => first | exact rfl | assumption); (case kd_36 => ktr_room); (case ku_36 => ktr_units); (case c0_36 => assumption); (case c1_36 => first | exact Nat.le_of_ble_eq_true rfl | lia | omega); (case c2_36 => first | exact Nat.le_of_ble_eq_true rfl | lia | omega); (case c3_36 => first | exact Nat.le_of_ble_eq_true rfl | lia | omega); (case c4_36 => first | exact Nat.le_of_ble_eq_true rfl | lia | omega); (case c5_36 => first | exact Nat.le_of_ble_eq_true rfl | lia | omega); k_whole; intros; (try dsimp only); (try k_sweep); (try k_fold)))
  k_with "o call ref" => (k_here; (with_reducible show wpAny _ _ (call (Value.ref 44) _) _ _ _); exfalso; first | exact Nat.le_of_ble_eq_true rfl | lia | omega)
  k_with "o call ref" => (k_here; (with_reducible show wpAny _ _ (call (Value.ref 56) _) _ _ _); exfalso; first | exact Nat.le_of_ble_eq_true rfl | lia | omega)
  k_with "o call ref" => (k_here; (with_reducible show wpAny _ _ (call (Value.ref 230) _) _ _ _); refine stop_of ?_)
  k_with "o call ref" => (k_here; (with_reducible show wpAny _ _ (call (Value.ref 230) _) _ _ _); k_dflt (refine' Ctr.use (tag_new _ _ ⟨_, _, _, _, _, _, _⟩) ?k1_19 ?k2_19 ?k3_19 ?k4_19 ?k5_19 ?kK_19 ?kd_19 ?ku_19 ?_; (case k1_19 => k_asm); (case k2_19 => k_asm); (case k3_19 => k_asm); (case k4_19 => k_asm); (case k5_19 => k_asm); (case kK_19 => first | exact rfl | assumption); (case kd_19 => ktr_room); (case ku_19 => ktr_units); k_whole; intros; (try dsimp only); (try k_sweep); (try k_fold)))
  have hv := tagW_v hr
  have hr' := hr
  obtain ⟨hr1, hr2, hr3, hr4, hr5⟩ := hr'
  rw [← hg2] at hv
  intro p loose mean mg mb dp un gd cn cs ad ccd cl outer A₀ base h₀ L m s Q E B F X N T hk hd' hu hret
  k_steps
  all_goals
    refine' hret ((_, _) :: (_, _) :: []) _ _ ?e1 ?e2 ?e5 _ _ ?e3 ?e4
    (case e4 => assumption)
    (case e3 => assumption)
    (case e2 => k_extra "ktd_rel")
    (case e1 => k_extra "tbn_conj")
    (case e5 => exact ⟨hg1, by dsimp only; rw [hg2]; exact tagW_p hr, by dsimp only; rw [hg2, tagW_d hr, dI_beq], hv⟩)
end
end
section
open PySem PySem.W PyProof.Rows PySem.Calls PySem.Spec
set_option maxRecDepth 100000
set_option maxHeartbeats 8000000
section
theorem unpack_tags_ok (w : World) (news : Led) (b : Array UInt8) (tb : Tok) (ks : List Int) (hk9 : KBw.bInts b = ks) (hz : ks.length ≤ 2000) (ta : Tok) (ts : List TagV) (hr : ∀ t ∈ ts, RowOk t) (hn : ts.length ≤ 4) (hl : 12 + 4 * ts.length + 2 ≤ ks.length) (hg : ∀ (i : Nat) t, ts[i]? = some t → getL ks (12 + 4 * i) (2 : Int).toNat = t.k ∧ getL ks (12 + 4 * i + 2) (2 : Int).toNat = tagW t) (hend : getL ks (12 + 4 * ts.length) (2 : Int).toNat = 2054) :
    Ctr w 302 16 120 [.bytes b tb, .int 12 ta] news (fun R => ∀ tl y T xs' ts' ta', Abv news tl → (y, tupObj [.ref T, .int (12 + 4 * (ts.length : Int)) ta']) ∈ tl → (T, tupObj (xs'.map .ref)) ∈ tl → TagsAt w (tl ++ news) xs' ts' → SameTags ts ts' → R (tl ++ news) (.ref y)) := by
  k_with_none
  w_top off
  k_with "k_mem" => first | assumption | exact List.mem_cons_self | (refine List.mem_cons_of_mem _ ?_; k_extra "k_mem") | (refine List.mem_append_right _ ?_; k_extra "k_mem") | (refine List.mem_append_left _ ?_; k_extra "k_mem")
  k_with "k_all" => assumption
  k_with "ktr_room" => ((try simp only [depth_under_make, depth_under_kw, depth_in1, depth_deeper, depth_caller]); (try dsimp only [ktrTop]); first | exact room0 (by with_reducible assumption) | exact room1 (by with_reducible assumption) rfl | exact room2 (by with_reducible assumption) rfl | exact room3 (by with_reducible assumption) rfl | exact Nat.le_of_ble_eq_true rfl | lia | omega)
  k_with "k_room" => ktr_room
  k_with "ktr_units" => ((try simp only [units_in1, units_deeper, Around.mark_units, units_caller]); (try dsimp only [ktrTop]); first | exact room0 (by with_reducible assumption) | exact room1 (by with_reducible assumption) rfl | exact room2 (by with_reducible assumption) rfl | exact room3 (by with_reducible assumption) rfl | exact Nat.le_of_ble_eq_true rfl | ((have hcL9 := cLine_is); (first | lia | omega)))
  k_with "k_enter" => (refine' code_defC ?k1_20 ?k2_20 ?k3_20 ?k4_20 ?k5_20 ?kA_20 ?kF_20 ?kK_20 ?k6_20 ?k7_20 ?k8_20 ?k9_20 ?kB_20 ?kD_20 ?_ ?c2_20 ?c3_20 ?c4_20; (case kA_20 => exact rfl); (case kF_20 => exact rfl); (case kK_20 => first | exact rfl | assumption); (case k1_20 => k_asm); (case k2_20 => k_asm); (case k3_20 => k_asm); (case k4_20 => k_asm); (case k5_20 => k_asm); (case k6_20 => k_is); (case k7_20 => k_is); (case k8_20 => k_room); (case k9_20 => first | exact BindsTo.of_eq rfl | exact binds_K (by k_in) rfl (by k_is) rfl rfl rfl | fail "k_enter: no rule for these arguments"); (case kB_20 => exact rfl); (case kD_20 => decide +kernel); (case c2_20 => exact rfl); (case c3_20 => exact rfl); (case c4_20 => exact rfl); k_whole; intro _ _ _ _ _ _ _ N' Y' B' _ _ l1; (try k_lt l1); k_cells Y'; (try simp only [List.cons_append, List.nil_append] at N'); (try dsimp only); (try k_lift B'); (try k_fold))
  k_with "k_enter" => (refine' code_def ?k1_0 ?k2_0 ?k3_0 ?k4_0 ?k5_0 ?kA_0 ?kF_0 ?kK_0 ?k6_0 ?k7_0 ?k8_0 ?k9_0 ?kB_0 ?_ ?c2_0 ?c3_0 ?c4_0 ?c5_0; (case kA_0 => exact rfl); (case kF_0 => exact rfl); (case kK_0 => first | exact rfl | assumption); (case k1_0 => k_asm); (case k2_0 => k_asm); (case k3_0 => k_asm); (case k4_0 => k_asm); (case k5_0 => k_asm); (case k6_0 => k_is); (case k7_0 => k_is); (case k8_0 => k_room); (case k9_0 => first | exact BindsTo.of_eq rfl | exact binds_K (by k_in) rfl (by k_is) rfl rfl rfl | fail "k_enter: no rule for these arguments"); (case c5_0 => decide); (case kB_0 => exact locs rfl); (case c2_0 => exact rfl); (case c3_0 => exact rfl); (case c4_0 => exact rfl); k_whole; intro _ _ _ _ _ _ B' _ _; (try dsimp only); (try k_lift B'); (try k_fold))
  k_with "o call type:tuple" => (k_here; (with_reducible show wpAny _ _ (call (Value.type _) [Value.ref _]) _ _ _); k_dflt (refine call_tuple_tup (News.isTup (by k_asm) (by k_extra "k_mem")) ?_))
  k_with "o call type:bytes" => (k_here; (with_reducible show wpAny _ _ (call (Value.type _) [Value.bytes _ _]) _ _ _); refine call_bytes_same ?_)
  k_with "o call type:tuple" => (k_here; (with_reducible show wpAny _ _ (call (Value.type _) [Value.ref _]) _ _ _); k_dflt (refine' tupleOf_ys ?F_18 ?N_18 ?hm_18 ?hz_18 ?_; (case F_18 => k_asm); (case N_18 => k_asm); (case hm_18 => k_extra "k_mem"); (case hz_18 => first | assumption | exact Nat.le_of_ble_eq_true rfl); k_whole); intro _ _ _ _ l1; (try k_lt l1); (try (revert l1; intro _)); (try k_sweep))
  k_with "o compareOp Eq ref ref" => (k_here; (with_reducible show wpAny _ _ (compareOp _ (Value.ref _) (Value.ref _)) _ _ _); k_dflt (refine' eq_tups_nil (by k_asm) ?ka_8 (by k_extra "k_mem") (by ktr_units) ?_; (case ka_8 => k_extra "k_mem")); (try simp only [reduceCtorEq, decide_false, decide_true, Bool.not_false, Bool.not_true]))
  k_with "o compareOp NotEq ref ref" => (k_here; (with_reducible show wpAny _ _ (compareOp _ (Value.ref _) (Value.ref _)) _ _ _); k_dflt (refine' ne_tups_nil (by k_asm) ?ka_9 (by k_extra "k_mem") (by ktr_units) ?_; (case ka_9 => k_extra "k_mem")); (try simp only [reduceCtorEq, decide_false, decide_true, Bool.not_false, Bool.not_true]))
  k_with "o subscriptTail" => (k_here; (with_reducible show wpAny _ _ (subscriptTail _ _ (Value.ref _) (Value.int 0 _)) _ _ _); k_dflt (refine item_ledT0 (News.isTup (by k_asm) (by k_extra "k_mem")) ?_))
  k_with "o subscriptTail" => (k_here; (with_reducible show wpAny _ _ (subscriptTail _ _ (Value.ref _) (Value.ref _)) _ _ _); k_dflt (refine' from_ledT1 ?F_13 ?N_13 ?ht_13 ?hz_13 ?_; (case F_13 => k_asm); (case N_13 => k_asm); (case ht_13 => k_extra "k_mem"); (case hz_13 => first | assumption | (simp only [List.length_map]; first | exact Nat.le_of_ble_eq_true rfl | lia | omega))); intro _ _ _ _ l1; (try k_lt l1); (try (revert l1; intro _)); (try k_sweep))
  k_with "o binaryOp Add ref ref" => (k_here; (with_reducible show wpAny _ _ (binaryOp _ (Value.ref _) (Value.ref _)) _ _ _); k_dflt (refine' add_ledTm ?F_14 ?N_14 ?ht_14 ?hb_14 ?hz_14 ?_; (case F_14 => k_asm); (case N_14 => k_asm); (case ht_14 => k_extra "k_mem"); (case hb_14 => k_extra "k_mem"); (case hz_14 => (simp only [List.length_map, List.length_nil]; first | exact Nat.le_of_ble_eq_true rfl | lia | omega))); intro _ _ _ _ _ _ _; (try k_sweep))
  k_with "o binaryOp Add ref ref" => (k_here; (with_reducible show wpAny _ _ (binaryOp _ (Value.ref _) (Value.ref _)) _ _ _); k_dflt (refine' add_ledT1 ?F_15 ?N_15 ?ht_15 ?hb_15 ?hz_15 ?_; (case F_15 => k_asm); (case N_15 => k_asm); (case ht_15 => k_extra "k_mem"); (case hb_15 => k_extra "k_mem"); (case hz_15 => (simp only [List.length_map, List.length_nil]; first | exact Nat.le_of_ble_eq_true rfl | lia | omega))); intro _ _ _ _ l1; (try k_lt l1); (try (revert l1; intro _)); (try k_sweep))
  k_with "o binaryOp Add ref ref" => (k_here; (with_reducible show wpAny _ _ (binaryOp _ (Value.ref _) (Value.ref _)) _ _ _); k_dflt (refine' add_ledT0 ?F_16 ?N_16 ?ht_16 ?hb_16 ?hz_16 ?_; (case F_16 => k_asm); (case N_16 => k_asm); (case ht_16 => k_extra "k_mem"); (case hb_16 => k_extra "k_mem"); (case hz_16 => (simp only [List.length_map, List.length_nil]; first | exact Nat.le_of_ble_eq_true rfl | lia | omega))))
  k_with "tbn_conj" => first | exact abv_nil | assumption | exact abv_one (by assumption) | (refine abv_next (by first | assumption | exact And.left (by assumption) | lia | omega) ?_; k_extra "tbn_conj") | exact abv_oneA (by first | assumption | exact And.right (by assumption) | exact And.right (And.right (by assumption))) | (refine abv_all (by assumption) ?_; k_extra "tbn_conj") | (refine abv_allA (by first | assumption | exact And.right (by assumption) | exact And.right (And.right (by assumption))) ?_; k_extra "tbn_conj") | (refine abv_allS (by assumption) (by simp only [List.cons_append, List.append_assoc, List.nil_append]) ?_; k_extra "tbn_conj") | (refine abv_app ?_ ?_ <;> k_extra "tbn_conj")
  k_with "o mem9" => (with_reducible first | exact List.mem_cons_self | (refine List.mem_cons_of_mem _ ?_; k_extra "o mem9") | (refine List.mem_append_right _ ?_; k_extra "o mem9") | (refine List.mem_append_left _ ?_; k_extra "o mem9") | assumption)
  k_with "o subv" => (with_reducible first | exact sub_rfl | exact sub_le | (refine sub_tl ?_; k_extra "o subv") | (refine sub_ri ?_; k_extra "o subv") | (refine sub_lf ?_; k_extra "o subv"))
  k_with "o sub9" => first | k_extra "o subv" | exact sub_nil | ((with_reducible refine sub_cons ?_ ?_); (k_extra "o mem9"); k_extra "o sub9") | ((with_reducible refine sub_app ?_ ?_); k_extra "o sub9"; k_extra "o sub9")
  k_with "ktd_rel" => first | assumption | (refine IsFrm.mono ?_ (by assumption); k_extra "o sub9") | (refine IsTag.mono ?_ (by assumption); k_extra "o sub9") | (refine TagsAt.mono ?_ (by assumption); k_extra "o sub9") | (refine RowsAt.mono ?_ (by assumption); k_extra "o sub9") | exact IsFrm.of (by k_extra "k_mem") (by k_extra "k_mem") (by k_extra "k_mem") | exact IsTag.of (by k_extra "k_mem") (by k_extra "k_mem")
  k_with "k_all" => first | exact allNe_of (by assumption) (by first | exact Nat.le_refl _ | exact Nat.le_succ _ | lia | omega) | exact allNe_of (ktn_ltOf (by first | assumption | exact And.right (by assumption) | exact And.right (And.right (by assumption)))) (by first | exact Nat.le_refl _ | exact Nat.le_succ _ | lia | omega)
  k_with "o call ref" => (k_here; (with_reducible show wpAny _ _ (call (Value.ref 177) _) _ _ _); refine stop_of ?_)
  k_with "o call ref" => (k_here; (with_reducible show wpAny _ _ (call (Value.ref 177) _) _ _ _); k_dflt (refine' Ctr.use (get_number_ok _ _ _ _ _ ?c0_36 ?c1_36 _ _ _ _ ?c2_36 ?c3_36 ?c4_36 ?c5_36) ?k1_36 ?k2_36 ?k3_36 ?k4_36 ?k5_36 ?kK_36 ?kd_36 ?ku_36 ?_; (case k1_36 => k_asm); (case k2_36 => k_asm); (case k3_36 => k_asm); (case k4_36 => k_asm); (case k5_36 => k_asm); (case kK_36 => first | exact rfl | assumption); (case kd_36 => ktr_room); (case ku_36 => ktr_units); (case c0_36 => assumption); (case c1_36 => first | exact Nat.le_of_ble_eq_true rfl | lia | omega); (case c2_36 => first | exact Nat.le_of_ble_eq_true rfl | lia | omega); (case c3_36 => first | exact Nat.le_of_ble_eq_true rfl | lia | omega); (case c4_36 => first | exact Nat.le_of_ble_eq_true rfl | lia | omega); (case c5_36 => first | exact Nat.le_of_ble_eq_true rfl | lia | omega); k_whole; intros; (try dsimp only); (try k_sweep); (try k_fold)))
  k_with "o call ref" => (k_here; (with_reducible show wpAny _ _ (call (Value.ref 44) _) _ _ _); exfalso; first | exact Nat.le_of_ble_eq_true rfl | lia | omega)
  k_with "o call ref" => (k_here; (with_reducible show wpAny _ _ (call (Value.ref 56) _) _ _ _); exfalso; first | exact Nat.le_of_ble_eq_true rfl | lia | omega)
  k_with "o compareOp NotIn int ref" => (k_here; (with_reducible show wpAny _ _ (compareOp _ (Value.int _ _) (Value.ref 206)) _ _ _); k_dflt (refine' kinds_notin ?F_25 ?X_25 ?_; (case F_25 => k_asm); (case X_25 => k_asm)); (first | rw [decide_eq_true (by assumption)] | rw [decide_eq_false (by (first | lia | omega))]); (try simp only [Bool.not_true, Bool.not_false]))
  k_with "o compareOp In int ref" => (k_here; (with_reducible show wpAny _ _ (compareOp _ (Value.int _ _) (Value.ref 206)) _ _ _); k_dflt (refine' kinds_in ?F_27 ?X_27 ?_; (case F_27 => k_asm); (case X_27 => k_asm)); (first | rw [decide_eq_true (by assumption)] | rw [decide_eq_false (by (first | lia | omega))]); (try simp only [Bool.not_true, Bool.not_false]))
  k_with "o call ref" => (k_here; (with_reducible show wpAny _ _ (call (Value.ref 295) _) _ _ _); refine stop_of ?_)
  k_with "o call ref" => (k_here; (with_reducible show wpAny _ _ (call (Value.ref 295) _) _ _ _); k_dflt (refine' Ctr.use (unpack_tag_ok _ _ _ _ _ ?c0_37 ?c1_37 _ _ _ ?c2_37 ?c3_37 ?c4_37 ?c5_37 ?c6_37) ?k1_37 ?k2_37 ?k3_37 ?k4_37 ?k5_37 ?kK_37 ?kd_37 ?ku_37 ?_; (case k1_37 => k_asm); (case k2_37 => k_asm); (case k3_37 => k_asm); (case k4_37 => k_asm); (case k5_37 => k_asm); (case kK_37 => first | exact rfl | assumption); (case kd_37 => ktr_room); (case ku_37 => ktr_units); (case c0_37 => assumption); (case c1_37 => first | exact Nat.le_of_ble_eq_true rfl | lia | omega); (case c5_37 => assumption); (case c6_37 => assumption); (case c2_37 => assumption); (case c3_37 => first | exact Nat.le_of_ble_eq_true rfl | lia | omega); (case c4_37 => first | exact Nat.le_of_ble_eq_true rfl | lia | omega); k_whole; intros; (try dsimp only); (try k_sweep); (try k_fold)))
  k_with "o call builtin:len" => (k_here; (with_reducible show wpAny _ _ (call (Value.builtin _) [Value.ref _]) _ _ _); k_dflt (refine len_led (News.isList (by k_asm) (by k_extra "k_mem")) (by (first | lia | omega)) ?_))
  k_with "o exec While Compare cons nil" => (k_here; refine stop_of ?_)
  k_with "o call builtin:list.append" => (k_here; (with_reducible show wpAny _ _ (call (Value.builtin _) [Value.ref _, _]) _ _ _); k_dflt (refine' append_K ?k1_38 ?k2_38 ?k3_38 ?_ ?z_38; (case k1_38 => k_asm); (case k2_38 => k_asm); (case k3_38 => exact upd_app (Abv.off (by assumption) List.mem_cons_self) (by assumption)); (case z_38 => (simp only [List.size_toArray, sizeLine_eq]; first | exact Nat.le_of_ble_eq_true rfl | lia | omega)); k_whole); intro _ _ _; (try k_sweep))
  intro p loose mean mg mb dp un gd cn cs ad ccd cl outer A₀ base h₀ L m s Q E B F X N T hk hd' hu hret
  k_steps
  unfold Stop
  rename_i g9 L9 hx9 FG9 X9 T9 tk9 D9 hy9 l9 hw9 F9 N9
  refine While_at F9 N9 (Str.ofString "at") rfl (fun n v nw => ∃ (i : Nat) (tt : Tok) (xas : List Addr) (us : List TagV) (tl : Led) (c : Nat), n = ts.length - i ∧ i ≤ ts.length ∧ v = .int (12 + 4 * (i : Int)) tt ∧ nw = (D9, W.listOf (xas.map Value.ref).toArray c) :: (tl ++ news) ∧ Abv ((D9, W.listOf #[] 0) :: news) tl ∧ TagsAt w (tl ++ news) xas us ∧ SameTags (ts.take i) us)
    (n₀ := ts.length) ⟨0, ta, [], [], [], 0, rfl, Nat.zero_le _, rfl, rfl, abv_nil, trivial, trivial⟩ ?_
  rintro n v nw h₁ tk₁ F₁ N₁ ⟨i, tt, xas, us, tl, c, rfl, hi, rfl, rfl, hab, htags, hsame⟩
  have hsl := hsame.length
  rw [List.length_take, Nat.min_eq_left hi] at hsl
  have hxl : (xas.map Value.ref).length = i := by rw [List.length_map, htags.length, hsl]
  have ea : (12 + 4 * (i : Int)).toNat = 12 + 4 * i := by (first | lia | omega)
  have eb : (12 + 4 * (i : Int) + 2).toNat = 12 + 4 * i + 2 := by (first | lia | omega)
  have hz9 : (xas.map Value.ref).length ≤ 16384 := by (first | lia | omega)
  have hoff2 : ∀ p ∈ tl ++ news, p.1 ≠ D9 := fun p hp => by
    rcases List.mem_append.mp hp with hp | hp
    · exact hab.off (.head _) p hp
    · exact Nat.ne_of_lt (l9 p hp)
  by_cases hlt : i < ts.length
  · obtain ⟨t, hti⟩ : ∃ t, ts[i]? = some t := ⟨ts[i], by simp [hlt]⟩
    obtain ⟨hg1, hg2⟩ := hg i t hti
    rw [← ea] at hg1
    rw [← eb] at hg2
    have hrow : RowOk t := hr t (List.mem_of_getElem? hti)
    have hkk : getL ks (12 + 4 * (i : Int)).toNat (2 : Int).toNat = 33024 ∨ getL ks (12 + 4 * (i : Int)).toNat (2 : Int).toNat = 34984 := by rw [hg1]; exact hrow.1
    k_steps
    rename_i tk2 tl2 x2 t2 hA hT hS hp1 tk3 hp2 hp3 F4 N4
    refine WhStep.intro F4 rfl (fun z hz => by simp only [if_neg hz]) (News.perm N4 ?_) (by (first | lia | omega)) ⟨i + 1, _, xas ++ [x2], us ++ [t2], tl2 ++ tl, c + 1, rfl, hlt, by rw [show (12 : Int) + 4 * ((i + 1 : Nat) : Int) = 12 + 4 * (i : Int) + 4 by (first | lia | omega)], rfl, ?_, ?_, ?_⟩
    · intro q hq
      have ee : ((xas ++ [x2]).map Value.ref).toArray = (xas.map Value.ref).toArray.push (.ref x2) := by simp
      rw [ee] at hq
      simp only [List.mem_cons, List.mem_append] at hq ⊢
      rcases hq with h | (h | h) | h <;> simp only [h, true_or, or_true]
    · intro q hq
      refine all_app ?_ ?_
      · intro p hp
        rcases List.mem_cons.mp hq with rfl | hq
        · exact hA _ (.head _) p hp
        · exact hA q (.tail _ (List.mem_append_right _ hq)) p hp
      · intro p hp
        exact hab q hq p hp
    · rw [List.append_assoc]
      exact TagsAt.snoc hT.drop (htags.mono fun q hq => List.mem_append_right _ hq)
    · rw [take_snoc hti]
      exact hsame.snoc hS
  · have hie : i = ts.length := by (first | lia | omega)
    have hen : getL ks (12 + 4 * (i : Int)).toNat (2 : Int).toNat = 2054 := by rw [ea, hie]; exact hend
    have ht9 : ts.take i = ts := by rw [hie]; exact List.take_length
    rw [ht9] at hsame
    k_steps
    rw [hie] at *
    refine' hret ((_, _) :: (_, _) :: (_, _) :: tl) _ _ xas us _ ?e1 ?e6 ?e7 ?e2 hsame _ _ ?e3 ?e4
    (case e4 => assumption)
    (case e3 => assumption)
    (case e6 => exact .head _)
    (case e7 => exact .tail _ (.head _))
    (case e2 => exact htags.mono fun q hq => by simp only [List.cons_append, List.mem_cons]; exact .inr (.inr (.inr hq)))
    (case e1 => exact abv_next (And.left (by assumption)) (abv_next (And.left (by assumption)) (abv_con l9 (hab.sub fun q hq => .tail _ hq))))
end
end
section
open PySem PySem.W PyProof.Rows PySem.Calls PySem.Spec
set_option maxRecDepth 100000
set_option maxHeartbeats 8000000
section
theorem unpack_frame_ok (w : World) (news : Led) (b : Array UInt8) (tb : Tok) (ts : List TagV) (ps : List Int) (hk9 : KBw.bInts b = frameL ts ps) (hr : ∀ t ∈ ts, RowOk t) (hn : ts.length ≤ 4) (hn1 : 1 ≤ ts.length) (hps : ps.length = 46) :
    Ctr w 310 20 160 [.bytes b tb] news (fun R => ∀ tl x' tt tsr tk pb' tp xs' ts', Abv news tl → IsFrm w (tl ++ news) x' (fv tt tsr tk tp pb') xs' → TagsAt w (tl ++ news) xs' ts' → SameTags ts ts' → KBw.bInts pb' = ps → R (tl ++ news) (.ref x')) := by
  k_with_none
  w_top off
  k_with "k_mem" => first | assumption | exact List.mem_cons_self | (refine List.mem_cons_of_mem _ ?_; k_extra "k_mem") | (refine List.mem_append_right _ ?_; k_extra "k_mem") | (refine List.mem_append_left _ ?_; k_extra "k_mem")
  k_with "k_all" => assumption
  k_with "ktr_room" => ((try simp only [depth_under_make, depth_under_kw, depth_in1, depth_deeper, depth_caller]); (try dsimp only [ktrTop]); first | exact room0 (by with_reducible assumption) | exact room1 (by with_reducible assumption) rfl | exact room2 (by with_reducible assumption) rfl | exact room3 (by with_reducible assumption) rfl | exact Nat.le_of_ble_eq_true rfl | lia | omega)
  k_with "k_room" => ktr_room
  k_with "ktr_units" => ((try simp only [units_in1, units_deeper, Around.mark_units, units_caller]); (try dsimp only [ktrTop]); first | exact room0 (by with_reducible assumption) | exact room1 (by with_reducible assumption) rfl | exact room2 (by with_reducible assumption) rfl | exact room3 (by with_reducible assumption) rfl | exact Nat.le_of_ble_eq_true rfl | ((have hcL9 := cLine_is); (first | lia | omega)))
  k_with "k_enter" => (refine' code_defC ?k1_20 ?k2_20 ?k3_20 ?k4_20 ?k5_20 ?kA_20 ?kF_20 ?kK_20 ?k6_20 ?k7_20 ?k8_20 ?k9_20 ?kB_20 ?kD_20 ?_ ?c2_20 ?c3_20 ?c4_20; (case kA_20 => exact rfl); (case kF_20 => exact rfl); (case kK_20 => first | exact rfl | assumption); (case k1_20 => k_asm); (case k2_20 => k_asm); (case k3_20 => k_asm); (case k4_20 => k_asm); (case k5_20 => k_asm); (case k6_20 => k_is); (case k7_20 => k_is); (case k8_20 => k_room); (case k9_20 => first | exact BindsTo.of_eq rfl | exact binds_K (by k_in) rfl (by k_is) rfl rfl rfl | fail "k_enter: no rule for these arguments"); (case kB_20 => exact rfl); (case kD_20 => decide +kernel); (case c2_20 => exact rfl); (case c3_20 => exact rfl); (case c4_20 => exact rfl); k_whole; intro _ _ _ _ _ _ _ N' Y' B' _ _ l1; (try k_lt l1); k_cells Y'; (try simp only [List.cons_append, List.nil_append] at N'); (try dsimp only); (try k_lift B'); (try k_fold))
  k_with "k_enter" => (refine' code_def ?k1_0 ?k2_0 ?k3_0 ?k4_0 ?k5_0 ?kA_0 ?kF_0 ?kK_0 ?k6_0 ?k7_0 ?k8_0 ?k9_0 ?kB_0 ?_ ?c2_0 ?c3_0 ?c4_0 ?c5_0; (case kA_0 => exact rfl); (case kF_0 => exact rfl); (case kK_0 => first | exact rfl | assumption); (case k1_0 => k_asm); (case k2_0 => k_asm); (case k3_0 => k_asm); (case k4_0 => k_asm); (case k5_0 => k_asm); (case k6_0 => k_is); (case k7_0 => k_is); (case k8_0 => k_room); (case k9_0 => first | exact BindsTo.of_eq rfl | exact binds_K (by k_in) rfl (by k_is) rfl rfl rfl | fail "k_enter: no rule for these arguments"); (case c5_0 => decide); (case kB_0 => exact locs rfl); (case c2_0 => exact rfl); (case c3_0 => exact rfl); (case c4_0 => exact rfl); k_whole; intro _ _ _ _ _ _ B' _ _; (try dsimp only); (try k_lift B'); (try k_fold))
  k_with "o call type:tuple" => (k_here; (with_reducible show wpAny _ _ (call (Value.type _) [Value.ref _]) _ _ _); k_dflt (refine call_tuple_tup (News.isTup (by k_asm) (by k_extra "k_mem")) ?_))
  k_with "o call type:bytes" => (k_here; (with_reducible show wpAny _ _ (call (Value.type _) [Value.bytes _ _]) _ _ _); refine call_bytes_same ?_)
  k_with "o call type:tuple" => (k_here; (with_reducible show wpAny _ _ (call (Value.type _) [Value.ref _]) _ _ _); k_dflt (refine' tupleOf_ys ?F_18 ?N_18 ?hm_18 ?hz_18 ?_; (case F_18 => k_asm); (case N_18 => k_asm); (case hm_18 => k_extra "k_mem"); (case hz_18 => first | assumption | exact Nat.le_of_ble_eq_true rfl); k_whole); intro _ _ _ _ l1; (try k_lt l1); (try (revert l1; intro _)); (try k_sweep))
  k_with "o compareOp Eq ref ref" => (k_here; (with_reducible show wpAny _ _ (compareOp _ (Value.ref _) (Value.ref _)) _ _ _); k_dflt (refine' eq_tups_nil (by k_asm) ?ka_8 (by k_extra "k_mem") (by ktr_units) ?_; (case ka_8 => k_extra "k_mem")); (try simp only [reduceCtorEq, decide_false, decide_true, Bool.not_false, Bool.not_true]))
  k_with "o compareOp NotEq ref ref" => (k_here; (with_reducible show wpAny _ _ (compareOp _ (Value.ref _) (Value.ref _)) _ _ _); k_dflt (refine' ne_tups_nil (by k_asm) ?ka_9 (by k_extra "k_mem") (by ktr_units) ?_; (case ka_9 => k_extra "k_mem")); (try simp only [reduceCtorEq, decide_false, decide_true, Bool.not_false, Bool.not_true]))
  k_with "o subscriptTail" => (k_here; (with_reducible show wpAny _ _ (subscriptTail _ _ (Value.ref _) (Value.int 0 _)) _ _ _); k_dflt (refine item_ledT0 (News.isTup (by k_asm) (by k_extra "k_mem")) ?_))
  k_with "o subscriptTail" => (k_here; (with_reducible show wpAny _ _ (subscriptTail _ _ (Value.ref _) (Value.ref _)) _ _ _); k_dflt (refine' from_ledT1 ?F_13 ?N_13 ?ht_13 ?hz_13 ?_; (case F_13 => k_asm); (case N_13 => k_asm); (case ht_13 => k_extra "k_mem"); (case hz_13 => first | assumption | (simp only [List.length_map]; first | exact Nat.le_of_ble_eq_true rfl | lia | omega))); intro _ _ _ _ l1; (try k_lt l1); (try (revert l1; intro _)); (try k_sweep))
  k_with "o binaryOp Add ref ref" => (k_here; (with_reducible show wpAny _ _ (binaryOp _ (Value.ref _) (Value.ref _)) _ _ _); k_dflt (refine' add_ledTm ?F_14 ?N_14 ?ht_14 ?hb_14 ?hz_14 ?_; (case F_14 => k_asm); (case N_14 => k_asm); (case ht_14 => k_extra "k_mem"); (case hb_14 => k_extra "k_mem"); (case hz_14 => (simp only [List.length_map, List.length_nil]; first | exact Nat.le_of_ble_eq_true rfl | lia | omega))); intro _ _ _ _ _ _ _; (try k_sweep))
  k_with "o binaryOp Add ref ref" => (k_here; (with_reducible show wpAny _ _ (binaryOp _ (Value.ref _) (Value.ref _)) _ _ _); k_dflt (refine' add_ledT1 ?F_15 ?N_15 ?ht_15 ?hb_15 ?hz_15 ?_; (case F_15 => k_asm); (case N_15 => k_asm); (case ht_15 => k_extra "k_mem"); (case hb_15 => k_extra "k_mem"); (case hz_15 => (simp only [List.length_map, List.length_nil]; first | exact Nat.le_of_ble_eq_true rfl | lia | omega))); intro _ _ _ _ l1; (try k_lt l1); (try (revert l1; intro _)); (try k_sweep))
  k_with "o binaryOp Add ref ref" => (k_here; (with_reducible show wpAny _ _ (binaryOp _ (Value.ref _) (Value.ref _)) _ _ _); k_dflt (refine' add_ledT0 ?F_16 ?N_16 ?ht_16 ?hb_16 ?hz_16 ?_; (case F_16 => k_asm); (case N_16 => k_asm); (case ht_16 => k_extra "k_mem"); (case hb_16 => k_extra "k_mem"); (case hz_16 => (simp only [List.length_map, List.length_nil]; first | exact Nat.le_of_ble_eq_true rfl | lia | omega))))
  k_with "tbn_conj" => first | exact abv_nil | assumption | exact abv_one (by assumption) | (refine abv_next (by first | assumption | exact And.left (by assumption) | lia | omega) ?_; k_extra "tbn_conj") | exact abv_oneA (by first | assumption | exact And.right (by assumption) | exact And.right (And.right (by assumption))) | (refine abv_all (by assumption) ?_; k_extra "tbn_conj") | (refine abv_allA (by first | assumption | exact And.right (by assumption) | exact And.right (And.right (by assumption))) ?_; k_extra "tbn_conj") | (refine abv_allS (by assumption) (by simp only [List.cons_append, List.append_assoc, List.nil_append]) ?_; k_extra "tbn_conj") | (refine abv_app ?_ ?_ <;> k_extra "tbn_conj")
  k_with "o mem9" => (with_reducible first | exact List.mem_cons_self | (refine List.mem_cons_of_mem _ ?_; k_extra "o mem9") | (refine List.mem_append_right _ ?_; k_extra "o mem9") | (refine List.mem_append_left _ ?_; k_extra "o mem9") | assumption)
  k_with "o subv" => (with_reducible first | exact sub_rfl | exact sub_le | (refine sub_tl ?_; k_extra "o subv") | (refine sub_ri ?_; k_extra "o subv") | (refine sub_lf ?_; k_extra "o subv"))
  k_with "o sub9" => first | k_extra "o subv" | exact sub_nil | ((with_reducible refine sub_cons ?_ ?_); (k_extra "o mem9"); k_extra "o sub9") | ((with_reducible refine sub_app ?_ ?_); k_extra "o sub9"; k_extra "o sub9")
  k_with "ktd_rel" => first | with_reducible assumption | ((with_reducible refine IsFrm.mono ?_ (by with_reducible assumption)); k_extra "o sub9") | ((with_reducible refine IsTag.mono ?_ (by with_reducible assumption)); k_extra "o sub9") | ((with_reducible refine TagsAt.mono ?_ (by with_reducible assumption)); k_extra "o sub9") | ((with_reducible refine RowsAt.mono ?_ (by with_reducible assumption)); k_extra "o sub9") | ((with_reducible refine' IsFrm.of ?q1_39 ?q2_39 ?q3_39); (case q1_39 => k_extra "k_mem"); (case q2_39 => k_extra "k_mem"); (case q3_39 => k_extra "k_mem")) | ((with_reducible refine' IsTag.of ?q1_39 ?q2_39); (case q1_39 => k_extra "k_mem"); (case q2_39 => k_extra "k_mem"))
  k_with "k_all" => first | exact allNe_of (by assumption) (by first | exact Nat.le_refl _ | exact Nat.le_succ _ | lia | omega) | exact allNe_of (ktn_ltOf (by first | assumption | exact And.right (by assumption) | exact And.right (And.right (by assumption)))) (by first | exact Nat.le_refl _ | exact Nat.le_succ _ | lia | omega)
  k_with "o call ref" => (k_here; (with_reducible show wpAny _ _ (call (Value.ref 177) _) _ _ _); refine stop_of ?_)
  k_with "o call ref" => (k_here; (with_reducible show wpAny _ _ (call (Value.ref 177) _) _ _ _); k_dflt (refine' Ctr.use (get_number_ok _ _ _ _ _ ?c0_36 ?c1_36 _ _ _ _ ?c2_36 ?c3_36 ?c4_36 ?c5_36) ?k1_36 ?k2_36 ?k3_36 ?k4_36 ?k5_36 ?kK_36 ?kd_36 ?ku_36 ?_; (case k1_36 => k_asm); (case k2_36 => k_asm); (case k3_36 => k_asm); (case k4_36 => k_asm); (case k5_36 => k_asm); (case kK_36 => first | exact rfl | assumption); (case kd_36 => ktr_room); (case ku_36 => ktr_units); (case c0_36 => assumption); (case c1_36 => first | exact Nat.le_of_ble_eq_true rfl | lia | omega); (case c2_36 => first | exact Nat.le_of_ble_eq_true rfl | lia | omega); (case c3_36 => first | exact Nat.le_of_ble_eq_true rfl | lia | omega); (case c4_36 => first | exact Nat.le_of_ble_eq_true rfl | lia | omega); (case c5_36 => first | exact Nat.le_of_ble_eq_true rfl | lia | omega); k_whole; intros; (try dsimp only); (try k_sweep); (try k_fold)))
  k_with "o call ref" => (k_here; (with_reducible show wpAny _ _ (call (Value.ref 44) _) _ _ _); exfalso; first | exact Nat.le_of_ble_eq_true rfl | lia | omega)
  k_with "o call ref" => (k_here; (with_reducible show wpAny _ _ (call (Value.ref 56) _) _ _ _); exfalso; first | exact Nat.le_of_ble_eq_true rfl | lia | omega)
  k_with "o call builtin:len" => (k_here; (with_reducible show wpAny _ _ (call (Value.builtin "len") [Value.bytes _ _]) _ _ _); (refine KBw.len_K (by assumption) (by (first | lia | omega)) ?_))
  k_with "o call ref" => (k_here; (with_reducible show wpAny _ _ (call (Value.ref 165) _) _ _ _); refine stop_of ?_)
  k_with "o call ref" => (k_here; (with_reducible show wpAny _ _ (call (Value.ref 165) _) _ _ _); k_dflt (refine' Ctr.use (frame_sum_ok _ _ _ _ _ ?c1_40 ?c2_40) ?k1_40 ?k2_40 ?k3_40 ?k4_40 ?k5_40 ?kK_40 ?kd_40 ?ku_40 ?_; (case k1_40 => k_asm); (case k2_40 => k_asm); (case k3_40 => k_asm); (case k4_40 => k_asm); (case k5_40 => k_asm); (case kK_40 => first | exact rfl | assumption); (case kd_40 => ktr_room); (case ku_40 => ktr_units); (case c1_40 => assumption); (case c2_40 => first | exact Nat.le_of_ble_eq_true rfl | lia | omega); k_whole; intros; (try dsimp only); (try k_sweep); (try k_fold)))
  k_with "o call ref" => (k_here; (with_reducible show wpAny _ _ (call (Value.ref 302) _) _ _ _); refine stop_of ?_)
  k_with "o call ref" => (k_here; (with_reducible show wpAny _ _ (call (Value.ref 302) _) _ _ _); k_dflt (refine' Ctr.use (unpack_tags_ok _ _ _ _ _ ?c1_41 ?c2_41 _ _ ?c3_41 ?c4_41 ?c5_41 ?c6_41 ?c7_41) ?k1_41 ?k2_41 ?k3_41 ?k4_41 ?k5_41 ?kK_41 ?kd_41 ?ku_41 ?_; (case k1_41 => k_asm); (case k2_41 => k_asm); (case k3_41 => k_asm); (case k4_41 => k_asm); (case k5_41 => k_asm); (case kK_41 => first | exact rfl | assumption); (case kd_41 => ktr_room); (case ku_41 => ktr_units); (case c1_41 => assumption); (case c2_41 => first | exact Nat.le_of_ble_eq_true rfl | lia | omega); (case c3_41 => assumption); (case c4_41 => assumption); (case c6_41 => assumption); (case c5_41 => first | exact Nat.le_of_ble_eq_true rfl | lia | omega); (case c7_41 => assumption); k_whole; intros; (try dsimp only); (try k_sweep); (try k_fold)))
  k_with "o call ref" => (k_here; (with_reducible show wpAny _ _ (call (Value.ref 264) _) _ _ _); refine stop_of ?_)
  k_with "o call ref" => (k_here; (with_reducible show wpAny _ _ (call (Value.ref 264) _) _ _ _); (try rw [body_tgI]); (try rw [body_srI]); (try rw [body_endI]); k_dflt (refine' Ctr.use (frame_new _ _ ⟨_, _, _, _, _, _, _, _⟩ _ _ ?kc_42) ?k1_42 ?k2_42 ?k3_42 ?k4_42 ?k5_42 ?kK_42 ?kd_42 ?ku_42 ?_; (case k1_42 => k_asm); (case k2_42 => k_asm); (case k3_42 => k_asm); (case k4_42 => k_asm); (case k5_42 => k_asm); (case kK_42 => first | exact rfl | assumption); (case kd_42 => ktr_room); (case ku_42 => ktr_units); (case kc_42 => k_extra "k_mem"); k_whole; intros; (try dsimp only); (try k_sweep); (try k_fold)))
  k_with "o subscriptTail" => (k_here; (with_reducible show wpAny _ _ (subscriptTail _ (PySem.Expr.Slice none (some _) none _) (Value.bytes _ _) (Value.ref _)) _ _ _); (refine' slice_oct_upto (s := ⟨_, _, _, _, _⟩) ?F_43 ?N_43 ?hk_43 ?h0_43 ?h2_43 ?hz_43 ?_; (case F_43 => assumption); (case N_43 => assumption); (case hk_43 => assumption); (case h0_43 => first | exact Nat.le_of_ble_eq_true rfl | lia | omega); (case h2_43 => first | exact Nat.le_of_ble_eq_true rfl | lia | omega); (case hz_43 => first | exact Nat.le_of_ble_eq_true rfl | lia | omega)); intro _ h' _ _ F' N' hs9; rw [take_body (by (first | lia | omega))] at hs9)
  k_with "o subscriptTail" => (k_here; (with_reducible show wpAny _ _ (subscriptTail _ (PySem.Expr.Slice (some _) none none _) (Value.bytes _ _) (Value.ref _)) _ _ _); (refine' slice_oct_from (s := ⟨_, _, _, _, _⟩) ?F_44 ?N_44 ?hk_44 ?h0_44 ?h2_44 ?hz_44 ?_; (case F_44 => assumption); (case N_44 => assumption); (case hk_44 => assumption); (case h0_44 => first | exact Nat.le_of_ble_eq_true rfl | lia | omega); (case h2_44 => first | exact Nat.le_of_ble_eq_true rfl | lia | omega); (case hz_44 => first | exact Nat.le_of_ble_eq_true rfl | lia | omega)); intro _ h' _ _ F' N' hs9; (first | rw [drop_body (by (first | lia | omega))] at hs9 | rw [drop_pay (by (first | lia | omega))] at hs9))
  k_with "o compareOp NotEq bytes bytes" => (k_here; (with_reducible show wpAny _ _ (compareOp _ (Value.bytes _ _) (Value.bytes _ _)) _ _ _); refine ne_bytes_eq (by assumption) (by assumption) ?_)
  have hfl := frameL_length ts ps
  have hbl := bodyL_length ts ps
  have hg : ∀ (i : Nat) t, ts[i]? = some t → getL (bodyL ts ps) (12 + 4 * i) (2 : Int).toNat = t.k ∧ getL (bodyL ts ps) (12 + 4 * i + 2) (2 : Int).toNat = tagW t := fun i t h => body_k h (hr t (List.mem_of_getElem? h))
  have hend := body_end ts ps
  have ee : (12 + 4 * (ts.length : Int)).toNat = 12 + 4 * ts.length := by (first | lia | omega)
  have hE : getL (bodyL ts ps) (12 + 4 * (ts.length : Int)).toNat (2 : Int).toNat = 2054 := by rw [ee]; exact hend
  have h7 : getL (bodyL ts ps) (0 : Int).toNat (6 : Int).toNat = 7 := body_tg ts ps
  have h9 : getL (bodyL ts ps) (6 : Int).toNat (6 : Int).toNat = 9 := body_sr ts ps
  intro p loose mean mg mb dp un gd cn cs ad ccd cl outer A₀ base h₀ L m s Q E B F X N T hk hd' hu hret
  k_steps
  all_goals
    refine' hret ((_, _) :: (_, _) :: (_, _) :: _) _ _ _ _ _ _ _ _ ?e1 ?e2 ?e5 ?e6 ?e7 _ _ ?e3 ?e4
    (case e4 => assumption)
    (case e3 => assumption)
    (case e6 => assumption)
    (case e2 => k_extra "ktd_rel")
    (case e5 => k_extra "ktd_rel")
    (case e7 => assumption)
    (case e1 => k_extra "tbn_conj")
end
end
section
open PySem PySem.W PyProof.Rows PySem.Calls PySem.Spec
theorem news_dropX {h₀ h : Heap} {L : Addr} {a b c : Addr × Obj} {l : Led} (N : News h₀ L h (a :: b :: c :: l)) : News h₀ L h (a :: l) := fun q hq => N q (by
  rcases List.mem_cons.mp hq with h | h
  · rw [h]; exact .head _
  · exact .tail _ (.tail _ (.tail _ h)))
theorem all_lt_of {news : Led} {a b : Addr} (h : ∀ p ∈ news, @LT.lt Nat _ p.1 a) (l : @LT.lt Nat _ a b) : ∀ p ∈ news, @LT.lt Nat _ p.1 b := fun p hp => Nat.lt_trans (h p hp) l
set_option maxRecDepth 100000
set_option maxHeartbeats 8000000
section
theorem form_error (w : World) (news : Led) (msg : Str) (mt : Tok) :
    Ctr w 44 6 60 [.str msg mt] news (fun R => ∀ e t d, (∀ q ∈ news, @LT.lt Nat _ q.1 e) → R ((e, excObj 44 t (some d)) :: news) (.ref e)) := by
  k_with_none
  w_top off
  k_with "k_mem" => first | assumption | exact List.mem_cons_self | (refine List.mem_cons_of_mem _ ?_; k_extra "k_mem") | (refine List.mem_append_right _ ?_; k_extra "k_mem") | (refine List.mem_append_left _ ?_; k_extra "k_mem")
  k_with "k_all" => assumption
  k_with "ktr_room" => ((try simp only [depth_under_make, depth_under_kw, depth_in1, depth_deeper, depth_caller]); (try dsimp only [ktrTop]); first | exact room0 (by with_reducible assumption) | exact room1 (by with_reducible assumption) rfl | exact room2 (by with_reducible assumption) rfl | exact room3 (by with_reducible assumption) rfl | exact Nat.le_of_ble_eq_true rfl | lia | omega)
  k_with "k_room" => ktr_room
  k_with "ktr_units" => ((try simp only [units_in1, units_deeper, Around.mark_units, units_caller]); (try dsimp only [ktrTop]); first | exact room0 (by with_reducible assumption) | exact room1 (by with_reducible assumption) rfl | exact room2 (by with_reducible assumption) rfl | exact room3 (by with_reducible assumption) rfl | exact Nat.le_of_ble_eq_true rfl | ((have hcL9 := cLine_is); (first | lia | omega)))
  k_with "k_enter" => (refine' code_defC ?k1_20 ?k2_20 ?k3_20 ?k4_20 ?k5_20 ?kA_20 ?kF_20 ?kK_20 ?k6_20 ?k7_20 ?k8_20 ?k9_20 ?kB_20 ?kD_20 ?_ ?c2_20 ?c3_20 ?c4_20; (case kA_20 => exact rfl); (case kF_20 => exact rfl); (case kK_20 => first | exact rfl | assumption); (case k1_20 => k_asm); (case k2_20 => k_asm); (case k3_20 => k_asm); (case k4_20 => k_asm); (case k5_20 => k_asm); (case k6_20 => k_is); (case k7_20 => k_is); (case k8_20 => k_room); (case k9_20 => first | exact BindsTo.of_eq rfl | exact binds_K (by k_in) rfl (by k_is) rfl rfl rfl | fail "k_enter: no rule for these arguments"); (case kB_20 => exact rfl); (case kD_20 => decide +kernel); (case c2_20 => exact rfl); (case c3_20 => exact rfl); (case c4_20 => exact rfl); k_whole; intro _ _ _ _ _ _ _ N' Y' B' _ _ l1; (try k_lt l1); k_cells Y'; (try simp only [List.cons_append, List.nil_append] at N'); (try dsimp only); (try k_lift B'); (try k_fold))
  k_with "k_enter" => (refine' code_def ?k1_0 ?k2_0 ?k3_0 ?k4_0 ?k5_0 ?kA_0 ?kF_0 ?kK_0 ?k6_0 ?k7_0 ?k8_0 ?k9_0 ?kB_0 ?_ ?c2_0 ?c3_0 ?c4_0 ?c5_0; (case kA_0 => exact rfl); (case kF_0 => exact rfl); (case kK_0 => first | exact rfl | assumption); (case k1_0 => k_asm); (case k2_0 => k_asm); (case k3_0 => k_asm); (case k4_0 => k_asm); (case k5_0 => k_asm); (case k6_0 => k_is); (case k7_0 => k_is); (case k8_0 => k_room); (case k9_0 => first | exact BindsTo.of_eq rfl | exact binds_K (by k_in) rfl (by k_is) rfl rfl rfl | fail "k_enter: no rule for these arguments"); (case c5_0 => decide); (case kB_0 => exact locs rfl); (case c2_0 => exact rfl); (case c3_0 => exact rfl); (case c4_0 => exact rfl); k_whole; intro _ _ _ _ _ _ B' _ _; (try dsimp only); (try k_lift B'); (try k_fold))
  k_with "o call type:tuple" => (k_here; (with_reducible show wpAny _ _ (call (Value.type _) [Value.ref _]) _ _ _); k_dflt (refine call_tuple_tup (News.isTup (by k_asm) (by k_extra "k_mem")) ?_))
  k_with "o call type:bytes" => (k_here; (with_reducible show wpAny _ _ (call (Value.type _) [Value.bytes _ _]) _ _ _); refine call_bytes_same ?_)
  k_with "o call type:tuple" => (k_here; (with_reducible show wpAny _ _ (call (Value.type _) [Value.ref _]) _ _ _); k_dflt (refine' tupleOf_ys ?F_18 ?N_18 ?hm_18 ?hz_18 ?_; (case F_18 => k_asm); (case N_18 => k_asm); (case hm_18 => k_extra "k_mem"); (case hz_18 => first | assumption | exact Nat.le_of_ble_eq_true rfl); k_whole); intro _ _ _ _ l1; (try k_lt l1); (try (revert l1; intro _)); (try k_sweep))
  k_with "o compareOp Eq ref ref" => (k_here; (with_reducible show wpAny _ _ (compareOp _ (Value.ref _) (Value.ref _)) _ _ _); k_dflt (refine' eq_tups_nil (by k_asm) ?ka_8 (by k_extra "k_mem") (by ktr_units) ?_; (case ka_8 => k_extra "k_mem")); (try simp only [reduceCtorEq, decide_false, decide_true, Bool.not_false, Bool.not_true]))
  k_with "o compareOp NotEq ref ref" => (k_here; (with_reducible show wpAny _ _ (compareOp _ (Value.ref _) (Value.ref _)) _ _ _); k_dflt (refine' ne_tups_nil (by k_asm) ?ka_9 (by k_extra "k_mem") (by ktr_units) ?_; (case ka_9 => k_extra "k_mem")); (try simp only [reduceCtorEq, decide_false, decide_true, Bool.not_false, Bool.not_true]))
  k_with "o subscriptTail" => (k_here; (with_reducible show wpAny _ _ (subscriptTail _ _ (Value.ref _) (Value.int 0 _)) _ _ _); k_dflt (refine item_ledT0 (News.isTup (by k_asm) (by k_extra "k_mem")) ?_))
  k_with "o subscriptTail" => (k_here; (with_reducible show wpAny _ _ (subscriptTail _ _ (Value.ref _) (Value.ref _)) _ _ _); k_dflt (refine' from_ledT1 ?F_13 ?N_13 ?ht_13 ?hz_13 ?_; (case F_13 => k_asm); (case N_13 => k_asm); (case ht_13 => k_extra "k_mem"); (case hz_13 => first | assumption | (simp only [List.length_map]; first | exact Nat.le_of_ble_eq_true rfl | lia | omega))); intro _ _ _ _ l1; (try k_lt l1); (try (revert l1; intro _)); (try k_sweep))
  k_with "o binaryOp Add ref ref" => (k_here; (with_reducible show wpAny _ _ (binaryOp _ (Value.ref _) (Value.ref _)) _ _ _); k_dflt (refine' add_ledTm ?F_14 ?N_14 ?ht_14 ?hb_14 ?hz_14 ?_; (case F_14 => k_asm); (case N_14 => k_asm); (case ht_14 => k_extra "k_mem"); (case hb_14 => k_extra "k_mem"); (case hz_14 => (simp only [List.length_map, List.length_nil]; first | exact Nat.le_of_ble_eq_true rfl | lia | omega))); intro _ _ _ _ _ _ _; (try k_sweep))
  k_with "o binaryOp Add ref ref" => (k_here; (with_reducible show wpAny _ _ (binaryOp _ (Value.ref _) (Value.ref _)) _ _ _); k_dflt (refine' add_ledT1 ?F_15 ?N_15 ?ht_15 ?hb_15 ?hz_15 ?_; (case F_15 => k_asm); (case N_15 => k_asm); (case ht_15 => k_extra "k_mem"); (case hb_15 => k_extra "k_mem"); (case hz_15 => (simp only [List.length_map, List.length_nil]; first | exact Nat.le_of_ble_eq_true rfl | lia | omega))); intro _ _ _ _ l1; (try k_lt l1); (try (revert l1; intro _)); (try k_sweep))
  k_with "o binaryOp Add ref ref" => (k_here; (with_reducible show wpAny _ _ (binaryOp _ (Value.ref _) (Value.ref _)) _ _ _); k_dflt (refine' add_ledT0 ?F_16 ?N_16 ?ht_16 ?hb_16 ?hz_16 ?_; (case F_16 => k_asm); (case N_16 => k_asm); (case ht_16 => k_extra "k_mem"); (case hb_16 => k_extra "k_mem"); (case hz_16 => (simp only [List.length_map, List.length_nil]; first | exact Nat.le_of_ble_eq_true rfl | lia | omega))))
  k_with "tbn_conj" => first | exact abv_nil | assumption | exact abv_one (by assumption) | (refine abv_next (by first | assumption | exact And.left (by assumption) | lia | omega) ?_; k_extra "tbn_conj") | exact abv_oneA (by first | assumption | exact And.right (by assumption) | exact And.right (And.right (by assumption))) | (refine abv_all (by assumption) ?_; k_extra "tbn_conj") | (refine abv_allA (by first | assumption | exact And.right (by assumption) | exact And.right (And.right (by assumption))) ?_; k_extra "tbn_conj") | (refine abv_allS (by assumption) (by simp only [List.cons_append, List.append_assoc, List.nil_append]) ?_; k_extra "tbn_conj") | (refine abv_app ?_ ?_ <;> k_extra "tbn_conj")
  k_with "o mem9" => (with_reducible first | exact List.mem_cons_self | (refine List.mem_cons_of_mem _ ?_; k_extra "o mem9") | (refine List.mem_append_right _ ?_; k_extra "o mem9") | (refine List.mem_append_left _ ?_; k_extra "o mem9") | assumption)
  k_with "o subv" => (with_reducible first | exact sub_rfl | exact sub_le | (refine sub_tl ?_; k_extra "o subv") | (refine sub_ri ?_; k_extra "o subv") | (refine sub_lf ?_; k_extra "o subv"))
  k_with "o sub9" => first | k_extra "o subv" | exact sub_nil | ((with_reducible refine sub_cons ?_ ?_); (k_extra "o mem9"); k_extra "o sub9") | ((with_reducible refine sub_app ?_ ?_); k_extra "o sub9"; k_extra "o sub9")
  k_with "ktd_rel" => first | with_reducible assumption | ((with_reducible refine IsFrm.mono ?_ (by with_reducible assumption)); k_extra "o sub9") | ((with_reducible refine IsTag.mono ?_ (by with_reducible assumption)); k_extra "o sub9") | ((with_reducible refine TagsAt.mono ?_ (by with_reducible assumption)); k_extra "o sub9") | ((with_reducible refine RowsAt.mono ?_ (by with_reducible assumption)); k_extra "o sub9") | ((with_reducible refine' IsFrm.of ?q1_39 ?q2_39 ?q3_39); (case q1_39 => k_extra "k_mem"); (case q2_39 => k_extra "k_mem"); (case q3_39 => k_extra "k_mem")) | ((with_reducible refine' IsTag.of ?q1_39 ?q2_39); (case q1_39 => k_extra "k_mem"); (case q2_39 => k_extra "k_mem"))
  k_with "k_all" => first | (refine' allNe_of ?h1_45 ?h2_45; (case h1_45 => assumption); (case h2_45 => first | exact Nat.le_refl _ | exact Nat.le_succ _ | lia | omega)) | (refine' allNe_ofA ?h1_45 ?h2_45; (case h1_45 => assumption); (case h2_45 => first | exact Nat.le_refl _ | exact Nat.le_succ _ | lia | omega)) | (refine' allNe_ofA1 ?h1_45 ?h2_45; (case h1_45 => assumption); (case h2_45 => first | exact Nat.le_refl _ | exact Nat.le_succ _ | lia | omega)) | (refine' allNe_ofA2 ?h1_45 ?h2_45; (case h1_45 => assumption); (case h2_45 => first | exact Nat.le_refl _ | exact Nat.le_succ _ | lia | omega))
  k_with "o call ref" => (k_here; (with_reducible show wpAny _ _ (call (Value.ref 44) [Value.str _ _]) _ _ _); k_dflt (refine wpAny_call ?_); (refine' exc_K (fI := 28) ?F_46 ?N_46 (excMakes_of ?X_46 ?q_46) ?z_46 ?_; (case F_46 => k_asm); (case N_46 => k_asm); (case X_46 => exact Frag.In.keeps (by k_asm) (Fr.keep (by k_asm))); (case q_46 => rfl); (case z_46 => exact Nat.le_of_ble_eq_true rfl)); (intro _ _ _ _ _ _ _); (try dsimp only); k_enter)
  k_with "o call ref" => (k_here; (with_reducible show wpAny _ _ (call (Value.ref 56) [Value.str _ _]) _ _ _); k_dflt (refine wpAny_call ?_); (refine' exc_K (fI := 28) ?F_47 ?N_47 (excMakes_of ?X_47 ?q_47) ?z_47 ?_; (case F_47 => k_asm); (case N_47 => k_asm); (case X_47 => exact Frag.In.keeps (by k_asm) (Fr.keep (by k_asm))); (case q_47 => rfl); (case z_47 => exact Nat.le_of_ble_eq_true rfl)); (intro _ _ _ _ _ _ _); (try dsimp only); k_enter)
  k_with "o getMethod type:Exception" => (k_here; (with_reducible show wpAny _ _ (getMethod (Value.type "Exception") _ _) _ _ _); k_dflt (refine' method_type ?F_48 ?X_48 ?ht_48 ?hs_48 ?e_48 ?hh_48 ?_; (case F_48 => k_asm); (case X_48 => k_asm); (case ht_48 => exact rfl); (case hs_48 => decide +kernel); (case e_48 => k_is); (case hh_48 => k_handed)))
  k_with "o call builtin:Exception.__init__" => (k_here; (with_reducible show wpAny _ _ (call (Value.builtin _) [Value.ref _, _]) _ _ _); k_dflt (refine' init_K (fI := 28) (excMakes_of ?X_49 ?q_49) ?F_49 ?N_49 ?off_49 ?_; (case F_49 => assumption); (case N_49 => assumption); (case X_49 => exact Frag.In.keeps (by k_asm) (Fr.keep (by k_asm))); (case q_49 => rfl); (case off_49 => k_all)); (intro _ _ _ _ l1); (try k_lt l1); (try (revert l1; intro _)); (try k_sweep))
  k_with "o setAttr ref" => (k_here; (with_reducible show wpAny _ _ (setAttr (Value.ref _) _ _) _ _ _); k_dflt (refine' set_exc ?F_50 (news_swapX ?N_50) ?X_50 ?hs_50 ?hp_50 ?ht_50 ?hh_50 ?off_50 ?_; (case F_50 => assumption); (case N_50 => assumption); (case X_50 => exact Frag.In.keeps (by k_asm) (Fr.keep (by k_asm))); (case hs_50 => rfl); (case hp_50 => rfl); (case ht_50 => rfl); (case hh_50 => rfl); (case off_50 => k_all)); (intro _ _ _ _ _); (try k_sweep))
  intro p loose mean mg mb dp un gd cn cs ad ccd cl outer A₀ base h₀ L m s Q E B F X N T hk hd' hu hret
  k_steps
  all_goals
    refine' hret _ _ _ ?e1 _ _ ?e3 (news_dropX ?e4)
    (case e4 => assumption)
    (case e3 => assumption)
    (case e1 => exact all_lt_of (by assumption) (by assumption))
theorem size_error (w : World) (news : Led) (msg : Str) (mt : Tok) :
    Ctr w 56 6 60 [.str msg mt] news (fun R => ∀ e t d, (∀ q ∈ news, @LT.lt Nat _ q.1 e) → R ((e, excObj 56 t (some d)) :: news) (.ref e)) := by
  w_top off
  intro p loose mean mg mb dp un gd cn cs ad ccd cl outer A₀ base h₀ L m s Q E B F X N T hk hd' hu hret
  k_steps
  all_goals
    refine' hret _ _ _ ?e1 _ _ ?e3 (news_dropX ?e4)
    (case e4 => assumption)
    (case e3 => assumption)
    (case e1 => exact all_lt_of (by assumption) (by assumption))
end
end
section
open PySem PySem.W PyProof.Rows PySem.Calls PySem.Spec
set_option maxRecDepth 100000
set_option maxHeartbeats 8000000
section
theorem outer_tag_x (w : World) (news : Led) (x : Addr) (f : FrameV) (hf : IsFrm w news x f []) :
    CtrX w 331 14 140 [.ref x] news 44 := by
  k_with_none
  w_top off
  k_with "k_mem" => first | assumption | exact List.mem_cons_self | (refine List.mem_cons_of_mem _ ?_; k_extra "k_mem") | (refine List.mem_append_right _ ?_; k_extra "k_mem") | (refine List.mem_append_left _ ?_; k_extra "k_mem")
  k_with "k_all" => assumption
  k_with "ktr_room" => ((try simp only [depth_under_make, depth_under_kw, depth_in1, depth_deeper, depth_caller]); (try dsimp only [ktrTop]); first | exact room0 (by with_reducible assumption) | exact room1 (by with_reducible assumption) rfl | exact room2 (by with_reducible assumption) rfl | exact room3 (by with_reducible assumption) rfl | exact Nat.le_of_ble_eq_true rfl | lia | omega)
  k_with "k_room" => ktr_room
  k_with "ktr_units" => ((try simp only [units_in1, units_deeper, Around.mark_units, units_caller]); (try dsimp only [ktrTop]); first | exact room0 (by with_reducible assumption) | exact room1 (by with_reducible assumption) rfl | exact room2 (by with_reducible assumption) rfl | exact room3 (by with_reducible assumption) rfl | exact Nat.le_of_ble_eq_true rfl | ((have hcL9 := cLine_is); (first | lia | omega)))
  k_with "k_enter" => (refine' code_defC ?k1_20 ?k2_20 ?k3_20 ?k4_20 ?k5_20 ?kA_20 ?kF_20 ?kK_20 ?k6_20 ?k7_20 ?k8_20 ?k9_20 ?kB_20 ?kD_20 ?_ ?c2_20 ?c3_20 ?c4_20; (case kA_20 => exact rfl); (case kF_20 => exact rfl); (case kK_20 => first | exact rfl | assumption); (case k1_20 => k_asm); (case k2_20 => k_asm); (case k3_20 => k_asm); (case k4_20 => k_asm); (case k5_20 => k_asm); (case k6_20 => k_is); (case k7_20 => k_is); (case k8_20 => k_room); (case k9_20 => first | exact BindsTo.of_eq rfl | exact binds_K (by k_in) rfl (by k_is) rfl rfl rfl | fail "k_enter: no rule for these arguments"); (case kB_20 => exact rfl); (case kD_20 => decide +kernel); (case c2_20 => exact rfl); (case c3_20 => exact rfl); (case c4_20 => exact rfl); k_whole; intro _ _ _ _ _ _ _ N' Y' B' _ _ l1; (try k_lt l1); k_cells Y'; (try simp only [List.cons_append, List.nil_append] at N'); (try dsimp only); (try k_lift B'); (try k_fold))
  k_with "k_enter" => (refine' code_def ?k1_0 ?k2_0 ?k3_0 ?k4_0 ?k5_0 ?kA_0 ?kF_0 ?kK_0 ?k6_0 ?k7_0 ?k8_0 ?k9_0 ?kB_0 ?_ ?c2_0 ?c3_0 ?c4_0 ?c5_0; (case kA_0 => exact rfl); (case kF_0 => exact rfl); (case kK_0 => first | exact rfl | assumption); (case k1_0 => k_asm); (case k2_0 => k_asm); (case k3_0 => k_asm); (case k4_0 => k_asm); (case k5_0 => k_asm); (case k6_0 => k_is); (case k7_0 => k_is); (case k8_0 => k_room); (case k9_0 => first | exact BindsTo.of_eq rfl | exact binds_K (by k_in) rfl (by k_is) rfl rfl rfl | fail "k_enter: no rule for these arguments"); (case c5_0 => decide); (case kB_0 => exact locs rfl); (case c2_0 => exact rfl); (case c3_0 => exact rfl); (case c4_0 => exact rfl); k_whole; intro _ _ _ _ _ _ B' _ _; (try dsimp only); (try k_lift B'); (try k_fold))
  k_with "o call type:tuple" => (k_here; (with_reducible show wpAny _ _ (call (Value.type _) [Value.ref _]) _ _ _); k_dflt (refine call_tuple_tup (News.isTup (by k_asm) (by k_extra "k_mem")) ?_))
  k_with "o call type:bytes" => (k_here; (with_reducible show wpAny _ _ (call (Value.type _) [Value.bytes _ _]) _ _ _); refine call_bytes_same ?_)
  k_with "o call type:tuple" => (k_here; (with_reducible show wpAny _ _ (call (Value.type _) [Value.ref _]) _ _ _); k_dflt (refine' tupleOf_ys ?F_18 ?N_18 ?hm_18 ?hz_18 ?_; (case F_18 => k_asm); (case N_18 => k_asm); (case hm_18 => k_extra "k_mem"); (case hz_18 => first | assumption | exact Nat.le_of_ble_eq_true rfl); k_whole); intro _ _ _ _ l1; (try k_lt l1); (try (revert l1; intro _)); (try k_sweep))
  k_with "o compareOp Eq ref ref" => (k_here; (with_reducible show wpAny _ _ (compareOp _ (Value.ref _) (Value.ref _)) _ _ _); k_dflt (refine' eq_tups_nil (by k_asm) ?ka_8 (by k_extra "k_mem") (by ktr_units) ?_; (case ka_8 => k_extra "k_mem")); (try simp only [reduceCtorEq, decide_false, decide_true, Bool.not_false, Bool.not_true]))
  k_with "o compareOp NotEq ref ref" => (k_here; (with_reducible show wpAny _ _ (compareOp _ (Value.ref _) (Value.ref _)) _ _ _); k_dflt (refine' ne_tups_nil (by k_asm) ?ka_9 (by k_extra "k_mem") (by ktr_units) ?_; (case ka_9 => k_extra "k_mem")); (try simp only [reduceCtorEq, decide_false, decide_true, Bool.not_false, Bool.not_true]))
  k_with "o subscriptTail" => (k_here; (with_reducible show wpAny _ _ (subscriptTail _ _ (Value.ref _) (Value.int 0 _)) _ _ _); k_dflt (refine item_ledT0 (News.isTup (by k_asm) (by k_extra "k_mem")) ?_))
  k_with "o subscriptTail" => (k_here; (with_reducible show wpAny _ _ (subscriptTail _ _ (Value.ref _) (Value.ref _)) _ _ _); k_dflt (refine' from_ledT1 ?F_13 ?N_13 ?ht_13 ?hz_13 ?_; (case F_13 => k_asm); (case N_13 => k_asm); (case ht_13 => k_extra "k_mem"); (case hz_13 => first | assumption | (simp only [List.length_map]; first | exact Nat.le_of_ble_eq_true rfl | lia | omega))); intro _ _ _ _ l1; (try k_lt l1); (try (revert l1; intro _)); (try k_sweep))
  k_with "o binaryOp Add ref ref" => (k_here; (with_reducible show wpAny _ _ (binaryOp _ (Value.ref _) (Value.ref _)) _ _ _); k_dflt (refine' add_ledTm ?F_14 ?N_14 ?ht_14 ?hb_14 ?hz_14 ?_; (case F_14 => k_asm); (case N_14 => k_asm); (case ht_14 => k_extra "k_mem"); (case hb_14 => k_extra "k_mem"); (case hz_14 => (simp only [List.length_map, List.length_nil]; first | exact Nat.le_of_ble_eq_true rfl | lia | omega))); intro _ _ _ _ _ _ _; (try k_sweep))
  k_with "o binaryOp Add ref ref" => (k_here; (with_reducible show wpAny _ _ (binaryOp _ (Value.ref _) (Value.ref _)) _ _ _); k_dflt (refine' add_ledT1 ?F_15 ?N_15 ?ht_15 ?hb_15 ?hz_15 ?_; (case F_15 => k_asm); (case N_15 => k_asm); (case ht_15 => k_extra "k_mem"); (case hb_15 => k_extra "k_mem"); (case hz_15 => (simp only [List.length_map, List.length_nil]; first | exact Nat.le_of_ble_eq_true rfl | lia | omega))); intro _ _ _ _ l1; (try k_lt l1); (try (revert l1; intro _)); (try k_sweep))
  k_with "o binaryOp Add ref ref" => (k_here; (with_reducible show wpAny _ _ (binaryOp _ (Value.ref _) (Value.ref _)) _ _ _); k_dflt (refine' add_ledT0 ?F_16 ?N_16 ?ht_16 ?hb_16 ?hz_16 ?_; (case F_16 => k_asm); (case N_16 => k_asm); (case ht_16 => k_extra "k_mem"); (case hb_16 => k_extra "k_mem"); (case hz_16 => (simp only [List.length_map, List.length_nil]; first | exact Nat.le_of_ble_eq_true rfl | lia | omega))))
  k_with "tbn_conj" => first | exact abv_nil | assumption | exact abv_one (by assumption) | (refine abv_next (by first | assumption | exact And.left (by assumption) | lia | omega) ?_; k_extra "tbn_conj") | exact abv_oneA (by first | assumption | exact And.right (by assumption) | exact And.right (And.right (by assumption))) | (refine abv_all (by assumption) ?_; k_extra "tbn_conj") | (refine abv_allA (by first | assumption | exact And.right (by assumption) | exact And.right (And.right (by assumption))) ?_; k_extra "tbn_conj") | (refine abv_allS (by assumption) (by simp only [List.cons_append, List.append_assoc, List.nil_append]) ?_; k_extra "tbn_conj") | (refine abv_app ?_ ?_ <;> k_extra "tbn_conj")
  k_with "o mem9" => (with_reducible first | exact List.mem_cons_self | (refine List.mem_cons_of_mem _ ?_; k_extra "o mem9") | (refine List.mem_append_right _ ?_; k_extra "o mem9") | (refine List.mem_append_left _ ?_; k_extra "o mem9") | assumption)
  k_with "o subv" => (with_reducible first | exact sub_rfl | exact sub_le | (refine sub_tl ?_; k_extra "o subv") | (refine sub_ri ?_; k_extra "o subv") | (refine sub_lf ?_; k_extra "o subv"))
  k_with "o sub9" => first | k_extra "o subv" | exact sub_nil | ((with_reducible refine sub_cons ?_ ?_); (k_extra "o mem9"); k_extra "o sub9") | ((with_reducible refine sub_app ?_ ?_); k_extra "o sub9"; k_extra "o sub9")
  k_with "ktd_rel" => first | with_reducible assumption | ((with_reducible refine IsFrm.mono ?_ (by with_reducible assumption)); k_extra "o sub9") | ((with_reducible refine IsTag.mono ?_ (by with_reducible assumption)); k_extra "o sub9") | ((with_reducible refine TagsAt.mono ?_ (by with_reducible assumption)); k_extra "o sub9") | ((with_reducible refine RowsAt.mono ?_ (by with_reducible assumption)); k_extra "o sub9") | ((with_reducible refine' IsFrm.of ?q1_39 ?q2_39 ?q3_39); (case q1_39 => k_extra "k_mem"); (case q2_39 => k_extra "k_mem"); (case q3_39 => k_extra "k_mem")) | ((with_reducible refine' IsTag.of ?q1_39 ?q2_39); (case q1_39 => k_extra "k_mem"); (case q2_39 => k_extra "k_mem"))
  k_with "k_all" => first | (refine' allNe_of ?h1_45 ?h2_45; (case h1_45 => assumption); (case h2_45 => first | exact Nat.le_refl _ | exact Nat.le_succ _ | lia | omega)) | (refine' allNe_ofA ?h1_45 ?h2_45; (case h1_45 => assumption); (case h2_45 => first | exact Nat.le_refl _ | exact Nat.le_succ _ | lia | omega)) | (refine' allNe_ofA1 ?h1_45 ?h2_45; (case h1_45 => assumption); (case h2_45 => first | exact Nat.le_refl _ | exact Nat.le_succ _ | lia | omega)) | (refine' allNe_ofA2 ?h1_45 ?h2_45; (case h1_45 => assumption); (case h2_45 => first | exact Nat.le_refl _ | exact Nat.le_succ _ | lia | omega))
  k_with "o exec Raise some none" => (k_here; k_dflt (refine raise_own rfl ?_))
  k_with "o RaiseEnd" => ((with_reducible show RaiseEnd _ _ _ _); first | (refine' RaiseEnd.of (C := 44) (fI := 28) (excMakes_of ?X_51 ?q_51) ?he_51 ?hc_51 ?hd_51 ?h1_51 ?_; (case X_51 => exact Frag.In.keeps (by k_asm) (Fr.keep (by k_asm))); (case q_51 => exact rfl); (case he_51 => exact News.get (by k_asm) List.mem_cons_self); (case hc_51 => exact rfl); (case hd_51 => exact rfl); (case h1_51 => exact rfl); (try dsimp only)) | (refine' RaiseEnd.of (C := 56) (fI := 28) (excMakes_of ?X_51 ?q_51) ?he_51 ?hc_51 ?hd_51 ?h1_51 ?_; (case X_51 => exact Frag.In.keeps (by k_asm) (Fr.keep (by k_asm))); (case q_51 => exact rfl); (case he_51 => exact News.get (by k_asm) List.mem_cons_self); (case hc_51 => exact rfl); (case hd_51 => exact rfl); (case h1_51 => exact rfl); (try dsimp only)))
  k_with "o leaving ref" => (k_here; first | (k_dflt (refine' pass_ownS ?hf_52 ?K_52 ?F_52 ?R_52 ?U_52 ?_; (case R_52 => assumption); (case hf_52 => rfl); (case K_52 => assumption); (case F_52 => assumption); (case U_52 => assumption); k_whole); intro _ _ _) | (k_dflt (refine' leave_ownS ?hf_52 ?hk_52 ?K_52 ?F_52 ?N_52 ?off_52 ?hd_52 ?h1_52 ?h0_52 ?_; (case hf_52 => rfl); (case hk_52 => rfl); (case F_52 => assumption); (case N_52 => assumption); (case K_52 => assumption); (case hd_52 => rfl); (case h1_52 => rfl); (case h0_52 => rfl); (case off_52 => k_all); k_whole); intro _ _ _))
  k_with "o call ref" => (k_here; (with_reducible show wpAny _ _ (call (Value.ref 44) _) _ _ _); refine stop_of ?_)
  k_with "o call ref" => (k_here; (with_reducible show wpAny _ _ (call (Value.ref 44) _) _ _ _); k_dflt (refine' Ctr.use (form_error _ _ _ _) ?k1_53 ?k2_53 ?k3_53 ?k4_53 ?k5_53 ?kK_53 ?kd_53 ?ku_53 ?_; (case k1_53 => k_asm); (case k2_53 => k_asm); (case k3_53 => k_asm); (case k4_53 => k_asm); (case k5_53 => k_asm); (case kK_53 => first | exact rfl | assumption); (case kd_53 => ktr_room); (case ku_53 => ktr_units); k_whole; intros; (try dsimp only); (try k_sweep); (try k_fold)))
  k_with "o call ref" => (k_here; (with_reducible show wpAny _ _ (call (Value.ref 56) _) _ _ _); refine stop_of ?_)
  k_with "o call ref" => (k_here; (with_reducible show wpAny _ _ (call (Value.ref 56) _) _ _ _); k_dflt (refine' Ctr.use (size_error _ _ _ _) ?k1_54 ?k2_54 ?k3_54 ?k4_54 ?k5_54 ?kK_54 ?kd_54 ?ku_54 ?_; (case k1_54 => k_asm); (case k2_54 => k_asm); (case k3_54 => k_asm); (case k4_54 => k_asm); (case k5_54 => k_asm); (case kK_54 => first | exact rfl | assumption); (case kd_54 => ktr_room); (case ku_54 => ktr_units); k_whole; intros; (try dsimp only); (try k_sweep); (try k_fold)))
  obtain ⟨dx, tu0, a, b, c, d, e, hx, hdx, htu⟩ := hf
  have htu0 := htu
  simp only [List.map_nil] at htu
  intro p loose mean mg mb dp un gd cn cs ad ccd cl outer A₀ base h₀ L m s Q E B F X N T hk hd' hu hret
  k_steps
  all_goals
    refine' hret _ _ _ _ ?e1 (RaisedSN.sub ?e2 ?e3) ?e4
    (case e2 => assumption)
    (case e1 => assumption)
    (case e4 => assumption)
    (case e3 => first | exact fun q hq => hq | (intro q9 hq9; simp only [List.mem_cons, List.mem_append]; simp only [hq9, or_true]))
end
end
section
open PySem PySem.W PyProof.Rows PySem.Calls PySem.Spec
set_option maxRecDepth 100000
set_option maxHeartbeats 8000000
section
theorem popped_x (w : World) (news : Led) (x : Addr) (f : FrameV) (hf : IsFrm w news x f []) :
    CtrX w 338 18 200 [.ref x] news 44 := by
  k_with_none
  w_top off
  k_with "k_mem" => first | assumption | exact List.mem_cons_self | (refine List.mem_cons_of_mem _ ?_; k_extra "k_mem") | (refine List.mem_append_right _ ?_; k_extra "k_mem") | (refine List.mem_append_left _ ?_; k_extra "k_mem")
  k_with "k_all" => assumption
  k_with "ktr_room" => ((try simp only [depth_under_make, depth_under_kw, depth_in1, depth_deeper, depth_caller]); (try dsimp only [ktrTop]); first | exact room0 (by with_reducible assumption) | exact room1 (by with_reducible assumption) rfl | exact room2 (by with_reducible assumption) rfl | exact room3 (by with_reducible assumption) rfl | exact Nat.le_of_ble_eq_true rfl | lia | omega)
  k_with "k_room" => ktr_room
  k_with "ktr_units" => ((try simp only [units_in1, units_deeper, Around.mark_units, units_caller]); (try dsimp only [ktrTop]); first | exact room0 (by with_reducible assumption) | exact room1 (by with_reducible assumption) rfl | exact room2 (by with_reducible assumption) rfl | exact room3 (by with_reducible assumption) rfl | exact Nat.le_of_ble_eq_true rfl | ((have hcL9 := cLine_is); (first | lia | omega)))
  k_with "k_enter" => (refine' code_defC ?k1_20 ?k2_20 ?k3_20 ?k4_20 ?k5_20 ?kA_20 ?kF_20 ?kK_20 ?k6_20 ?k7_20 ?k8_20 ?k9_20 ?kB_20 ?kD_20 ?_ ?c2_20 ?c3_20 ?c4_20; (case kA_20 => exact rfl); (case kF_20 => exact rfl); (case kK_20 => first | exact rfl | assumption); (case k1_20 => k_asm); (case k2_20 => k_asm); (case k3_20 => k_asm); (case k4_20 => k_asm); (case k5_20 => k_asm); (case k6_20 => k_is); (case k7_20 => k_is); (case k8_20 => k_room); (case k9_20 => first | exact BindsTo.of_eq rfl | exact binds_K (by k_in) rfl (by k_is) rfl rfl rfl | fail "k_enter: no rule for these arguments"); (case kB_20 => exact rfl); (case kD_20 => decide +kernel); (case c2_20 => exact rfl); (case c3_20 => exact rfl); (case c4_20 => exact rfl); k_whole; intro _ _ _ _ _ _ _ N' Y' B' _ _ l1; (try k_lt l1); k_cells Y'; (try simp only [List.cons_append, List.nil_append] at N'); (try dsimp only); (try k_lift B'); (try k_fold))
  k_with "k_enter" => (refine' code_def ?k1_0 ?k2_0 ?k3_0 ?k4_0 ?k5_0 ?kA_0 ?kF_0 ?kK_0 ?k6_0 ?k7_0 ?k8_0 ?k9_0 ?kB_0 ?_ ?c2_0 ?c3_0 ?c4_0 ?c5_0; (case kA_0 => exact rfl); (case kF_0 => exact rfl); (case kK_0 => first | exact rfl | assumption); (case k1_0 => k_asm); (case k2_0 => k_asm); (case k3_0 => k_asm); (case k4_0 => k_asm); (case k5_0 => k_asm); (case k6_0 => k_is); (case k7_0 => k_is); (case k8_0 => k_room); (case k9_0 => first | exact BindsTo.of_eq rfl | exact binds_K (by k_in) rfl (by k_is) rfl rfl rfl | fail "k_enter: no rule for these arguments"); (case c5_0 => decide); (case kB_0 => exact locs rfl); (case c2_0 => exact rfl); (case c3_0 => exact rfl); (case c4_0 => exact rfl); k_whole; intro _ _ _ _ _ _ B' _ _; (try dsimp only); (try k_lift B'); (try k_fold))
  k_with "o call type:tuple" => (k_here; (with_reducible show wpAny _ _ (call (Value.type _) [Value.ref _]) _ _ _); k_dflt (refine call_tuple_tup (News.isTup (by k_asm) (by k_extra "k_mem")) ?_))
  k_with "o call type:bytes" => (k_here; (with_reducible show wpAny _ _ (call (Value.type _) [Value.bytes _ _]) _ _ _); refine call_bytes_same ?_)
  k_with "o call type:tuple" => (k_here; (with_reducible show wpAny _ _ (call (Value.type _) [Value.ref _]) _ _ _); k_dflt (refine' tupleOf_ys ?F_18 ?N_18 ?hm_18 ?hz_18 ?_; (case F_18 => k_asm); (case N_18 => k_asm); (case hm_18 => k_extra "k_mem"); (case hz_18 => first | assumption | exact Nat.le_of_ble_eq_true rfl); k_whole); intro _ _ _ _ l1; (try k_lt l1); (try (revert l1; intro _)); (try k_sweep))
  k_with "o compareOp Eq ref ref" => (k_here; (with_reducible show wpAny _ _ (compareOp _ (Value.ref _) (Value.ref _)) _ _ _); k_dflt (refine' eq_tups_nil (by k_asm) ?ka_8 (by k_extra "k_mem") (by ktr_units) ?_; (case ka_8 => k_extra "k_mem")); (try simp only [reduceCtorEq, decide_false, decide_true, Bool.not_false, Bool.not_true]))
  k_with "o compareOp NotEq ref ref" => (k_here; (with_reducible show wpAny _ _ (compareOp _ (Value.ref _) (Value.ref _)) _ _ _); k_dflt (refine' ne_tups_nil (by k_asm) ?ka_9 (by k_extra "k_mem") (by ktr_units) ?_; (case ka_9 => k_extra "k_mem")); (try simp only [reduceCtorEq, decide_false, decide_true, Bool.not_false, Bool.not_true]))
  k_with "o subscriptTail" => (k_here; (with_reducible show wpAny _ _ (subscriptTail _ _ (Value.ref _) (Value.int 0 _)) _ _ _); k_dflt (refine item_ledT0 (News.isTup (by k_asm) (by k_extra "k_mem")) ?_))
  k_with "o subscriptTail" => (k_here; (with_reducible show wpAny _ _ (subscriptTail _ _ (Value.ref _) (Value.ref _)) _ _ _); k_dflt (refine' from_ledT1 ?F_13 ?N_13 ?ht_13 ?hz_13 ?_; (case F_13 => k_asm); (case N_13 => k_asm); (case ht_13 => k_extra "k_mem"); (case hz_13 => first | assumption | (simp only [List.length_map]; first | exact Nat.le_of_ble_eq_true rfl | lia | omega))); intro _ _ _ _ l1; (try k_lt l1); (try (revert l1; intro _)); (try k_sweep))
  k_with "o binaryOp Add ref ref" => (k_here; (with_reducible show wpAny _ _ (binaryOp _ (Value.ref _) (Value.ref _)) _ _ _); k_dflt (refine' add_ledTm ?F_14 ?N_14 ?ht_14 ?hb_14 ?hz_14 ?_; (case F_14 => k_asm); (case N_14 => k_asm); (case ht_14 => k_extra "k_mem"); (case hb_14 => k_extra "k_mem"); (case hz_14 => (simp only [List.length_map, List.length_nil]; first | exact Nat.le_of_ble_eq_true rfl | lia | omega))); intro _ _ _ _ _ _ _; (try k_sweep))
  k_with "o binaryOp Add ref ref" => (k_here; (with_reducible show wpAny _ _ (binaryOp _ (Value.ref _) (Value.ref _)) _ _ _); k_dflt (refine' add_ledT1 ?F_15 ?N_15 ?ht_15 ?hb_15 ?hz_15 ?_; (case F_15 => k_asm); (case N_15 => k_asm); (case ht_15 => k_extra "k_mem"); (case hb_15 => k_extra "k_mem"); (case hz_15 => (simp only [List.length_map, List.length_nil]; first | exact Nat.le_of_ble_eq_true rfl | lia | omega))); intro _ _ _ _ l1; (try k_lt l1); (try (revert l1; intro _)); (try k_sweep))
  k_with "o binaryOp Add ref ref" => (k_here; (with_reducible show wpAny _ _ (binaryOp _ (Value.ref _) (Value.ref _)) _ _ _); k_dflt (refine' add_ledT0 ?F_16 ?N_16 ?ht_16 ?hb_16 ?hz_16 ?_; (case F_16 => k_asm); (case N_16 => k_asm); (case ht_16 => k_extra "k_mem"); (case hb_16 => k_extra "k_mem"); (case hz_16 => (simp only [List.length_map, List.length_nil]; first | exact Nat.le_of_ble_eq_true rfl | lia | omega))))
  k_with "tbn_conj" => first | exact abv_nil | assumption | exact abv_one (by assumption) | (refine abv_next (by first | assumption | exact And.left (by assumption) | lia | omega) ?_; k_extra "tbn_conj") | exact abv_oneA (by first | assumption | exact And.right (by assumption) | exact And.right (And.right (by assumption))) | (refine abv_all (by assumption) ?_; k_extra "tbn_conj") | (refine abv_allA (by first | assumption | exact And.right (by assumption) | exact And.right (And.right (by assumption))) ?_; k_extra "tbn_conj") | (refine abv_allS (by assumption) (by simp only [List.cons_append, List.append_assoc, List.nil_append]) ?_; k_extra "tbn_conj") | (refine abv_app ?_ ?_ <;> k_extra "tbn_conj")
  k_with "o mem9" => (with_reducible first | exact List.mem_cons_self | (refine List.mem_cons_of_mem _ ?_; k_extra "o mem9") | (refine List.mem_append_right _ ?_; k_extra "o mem9") | (refine List.mem_append_left _ ?_; k_extra "o mem9") | assumption)
  k_with "o subv" => (with_reducible first | exact sub_rfl | exact sub_le | (refine sub_tl ?_; k_extra "o subv") | (refine sub_ri ?_; k_extra "o subv") | (refine sub_lf ?_; k_extra "o subv"))
  k_with "o sub9" => first | k_extra "o subv" | exact sub_nil | ((with_reducible refine sub_cons ?_ ?_); (k_extra "o mem9"); k_extra "o sub9") | ((with_reducible refine sub_app ?_ ?_); k_extra "o sub9"; k_extra "o sub9")
  k_with "ktd_rel" => first | with_reducible assumption | ((with_reducible refine IsFrm.mono ?_ (by with_reducible assumption)); k_extra "o sub9") | ((with_reducible refine IsTag.mono ?_ (by with_reducible assumption)); k_extra "o sub9") | ((with_reducible refine TagsAt.mono ?_ (by with_reducible assumption)); k_extra "o sub9") | ((with_reducible refine RowsAt.mono ?_ (by with_reducible assumption)); k_extra "o sub9") | ((with_reducible refine' IsFrm.of ?q1_39 ?q2_39 ?q3_39); (case q1_39 => k_extra "k_mem"); (case q2_39 => k_extra "k_mem"); (case q3_39 => k_extra "k_mem")) | ((with_reducible refine' IsTag.of ?q1_39 ?q2_39); (case q1_39 => k_extra "k_mem"); (case q2_39 => k_extra "k_mem"))
  k_with "k_all" => first | (refine' allNe_of ?h1_45 ?h2_45; (case h1_45 => assumption); (case h2_45 => first | exact Nat.le_refl _ | exact Nat.le_succ _ | lia | omega)) | (refine' allNe_ofA ?h1_45 ?h2_45; (case h1_45 => assumption); (case h2_45 => first | exact Nat.le_refl _ | exact Nat.le_succ _ | lia | omega)) | (refine' allNe_ofA1 ?h1_45 ?h2_45; (case h1_45 => assumption); (case h2_45 => first | exact Nat.le_refl _ | exact Nat.le_succ _ | lia | omega)) | (refine' allNe_ofA2 ?h1_45 ?h2_45; (case h1_45 => assumption); (case h2_45 => first | exact Nat.le_refl _ | exact Nat.le_succ _ | lia | omega))
  k_with "o exec Raise some none" => (k_here; k_dflt (refine raise_own rfl ?_))
  k_with "o RaiseEnd" => ((with_reducible show RaiseEnd _ _ _ _); first | (refine' RaiseEnd.of (C := 44) (fI := 28) (excMakes_of ?X_51 ?q_51) ?he_51 ?hc_51 ?hd_51 ?h1_51 ?_; (case X_51 => exact Frag.In.keeps (by k_asm) (Fr.keep (by k_asm))); (case q_51 => exact rfl); (case he_51 => exact News.get (by k_asm) List.mem_cons_self); (case hc_51 => exact rfl); (case hd_51 => exact rfl); (case h1_51 => exact rfl); (try dsimp only)) | (refine' RaiseEnd.of (C := 56) (fI := 28) (excMakes_of ?X_51 ?q_51) ?he_51 ?hc_51 ?hd_51 ?h1_51 ?_; (case X_51 => exact Frag.In.keeps (by k_asm) (Fr.keep (by k_asm))); (case q_51 => exact rfl); (case he_51 => exact News.get (by k_asm) List.mem_cons_self); (case hc_51 => exact rfl); (case hd_51 => exact rfl); (case h1_51 => exact rfl); (try dsimp only)))
  k_with "o leaving ref" => (k_here; first | (k_dflt (refine' pass_ownS ?hf_52 ?K_52 ?F_52 ?R_52 ?U_52 ?_; (case R_52 => assumption); (case hf_52 => rfl); (case K_52 => assumption); (case F_52 => assumption); (case U_52 => assumption); k_whole); intro _ _ _) | (k_dflt (refine' leave_ownS ?hf_52 ?hk_52 ?K_52 ?F_52 ?N_52 ?off_52 ?hd_52 ?h1_52 ?h0_52 ?_; (case hf_52 => rfl); (case hk_52 => rfl); (case F_52 => assumption); (case N_52 => assumption); (case K_52 => assumption); (case hd_52 => rfl); (case h1_52 => rfl); (case h0_52 => rfl); (case off_52 => k_all); k_whole); intro _ _ _))
  k_with "o call ref" => (k_here; (with_reducible show wpAny _ _ (call (Value.ref 331) _) _ _ _); refine stop_of ?_)
  k_with "o call ref" => (k_here; (with_reducible show wpAny _ _ (call (Value.ref 331) _) _ _ _); k_dflt (refine' CtrX.use (outer_tag_x _ _ _ _ ?kc_55) ?k1_55 ?k2_55 ?k3_55 ?k4_55 ?k5_55 ?kK_55 ?kd_55 ?ku_55 ?_; (case k1_55 => k_asm); (case k2_55 => k_asm); (case k3_55 => k_asm); (case k4_55 => k_asm); (case k5_55 => k_asm); (case kK_55 => first | exact rfl | assumption); (case kd_55 => ktr_room); (case ku_55 => ktr_units); (case kc_55 => k_extra "ktd_rel"); k_whole; intro _ _ _ _ _ _ _; (try dsimp only)))
  have hf0 := hf
  obtain ⟨dx, tu0, a, b, c, d, e, hx, hdx, htu⟩ := hf
  have htu0 := htu
  simp only [List.map_nil] at htu
  intro p loose mean mg mb dp un gd cn cs ad ccd cl outer A₀ base h₀ L m s Q E B F X N T hk hd' hu hret
  k_steps
  all_goals
    refine' hret _ _ _ _ ?e1 (RaisedSN.sub ?e2 ?e3) ?e4
    (case e2 => assumption)
    (case e1 => assumption)
    (case e4 => assumption)
    (case e3 => first | exact fun q hq => hq | (intro q9 hq9; simp only [List.mem_cons, List.mem_append]; simp only [hq9, or_true]))
theorem with_vlan_x (w : World) (news : Led) (x : Addr) (f : FrameV) (hf : IsFrm w news x f []) (v : Int) (tv : Tok) :
    CtrX w 359 18 200 [.ref x, .int v tv] news 44 := by
  w_top off
  have hf0 := hf
  obtain ⟨dx, tu0, a, b, c, d, e, hx, hdx, htu⟩ := hf
  have htu0 := htu
  simp only [List.map_nil] at htu
  intro p loose mean mg mb dp un gd cn cs ad ccd cl outer A₀ base h₀ L m s Q E B F X N T hk hd' hu hret
  k_steps
  all_goals
    refine' hret _ _ _ _ ?e1 (RaisedSN.sub ?e2 ?e3) ?e4
    (case e2 => assumption)
    (case e1 => assumption)
    (case e4 => assumption)
    (case e3 => first | exact fun q hq => hq | (intro q9 hq9; simp only [List.mem_cons, List.mem_append]; simp only [hq9, or_true]))
theorem with_priority_x (w : World) (news : Led) (x : Addr) (f : FrameV) (hf : IsFrm w news x f []) (v : Int) (tv : Tok) :
    CtrX w 366 18 200 [.ref x, .int v tv] news 44 := by
  w_top off
  have hf0 := hf
  obtain ⟨dx, tu0, a, b, c, d, e, hx, hdx, htu⟩ := hf
  have htu0 := htu
  simp only [List.map_nil] at htu
  intro p loose mean mg mb dp un gd cn cs ad ccd cl outer A₀ base h₀ L m s Q E B F X N T hk hd' hu hret
  k_steps
  all_goals
    refine' hret _ _ _ _ ?e1 (RaisedSN.sub ?e2 ?e3) ?e4
    (case e2 => assumption)
    (case e1 => assumption)
    (case e4 => assumption)
    (case e3 => first | exact fun q hq => hq | (intro q9 hq9; simp only [List.mem_cons, List.mem_append]; simp only [hq9, or_true]))
end
end
section
open PySem PySem.W PyProof.Rows PySem.Calls PySem.Spec
set_option maxRecDepth 100000
set_option maxHeartbeats 8000000
/-- a call under which frames' slots may turn -/
noncomputable def CtrS (w : World) (f : Addr) (d u : Nat) (args : List Value) (news : Led) (P : (Led → Value → Prop) → Prop) : Prop :=
  ∀ (p : Program) (loose : List Str) (mean : ExcName → Option Value) (mg mb : Str → Option Value) (dp un : Nat) (gd : Option (List Code)) (cn : Str) (cs : Scope) (ad : Addr) (ccd : Value) (cl : List (Str × Addr)) (outer : List Env) (A₀ : Around) (base h₀ g₀ : Heap) (L : Addr) (m : Str → Option Value) (s : Shared) (Q E : Value → Shared → Prop),
    Below A₀ base outer h₀ → Fr h₀ L s.heap m → (hd.heap_1 w.params).In h₀ → News h₀ L s.heap news → Top p loose mean mg mb h₀ → (hd.heap_1 w.params).In base → Top p loose mean mg mb base → KtsDicts (outer.filterMap (·.frame)) h₀ → KtsTurn (outer.filterMap (·.frame)) g₀ h₀ → CodeHd base 410 408 → CodeHd base 431 427 → cs.kind = .function → dp + d < recursionLimit → un + u < cLine →
    P (fun news' r => ∀ h₀' h' tk', KtsTurn (outer.filterMap (·.frame)) g₀ h₀' → Fr h₀' L h' m → News h₀' L h' news' → Below A₀ base outer h₀' → (hd.heap_1 w.params).In h₀' → Top p loose mean mg mb h₀' → KtsDicts (outer.filterMap (·.frame)) h₀' → Q r { s with heap := h', toks := tk' }) →
    wpAny (model PySem.Challenge.rw_pf0386_01.row.prog w) (ktrTop dp un gd cn cs L ad ccd cl outer) (call (.ref f) args) Q E s
theorem CtrS.use {w : World} {f : Addr} {d u : Nat} {args : List Value} {news : Led} {P : (Led → Value → Prop) → Prop} (C : CtrS w f d u args news P)
    {p : Program} {loose : List Str} {mean : ExcName → Option Value} {mg mb : Str → Option Value} {dp un : Nat} {gd : Option (List Code)} {cn : Str} {cs : Scope} {ad : Addr} {ccd : Value} {cl : List (Str × Addr)} {outer : List Env} {A₀ : Around} {base h₀ g₀ : Heap} {L : Addr} {m : Str → Option Value} {s : Shared} {Q E : Value → Shared → Prop}
    (B : Below A₀ base outer h₀) (F : Fr h₀ L s.heap m) (X : (hd.heap_1 w.params).In h₀) (N : News h₀ L s.heap news) (T : Top p loose mean mg mb h₀) (XB : (hd.heap_1 w.params).In base) (TB : Top p loose mean mg mb base) (D : KtsDicts (outer.filterMap (·.frame)) h₀) (T0 : KtsTurn (outer.filterMap (·.frame)) g₀ h₀) (H1 : CodeHd base 410 408) (H2 : CodeHd base 431 427) (hk : cs.kind = .function) (hdd : dp + d < recursionLimit) (hu : un + u < cLine)
    (ret : P (fun news' r => ∀ h₀' h' tk', KtsTurn (outer.filterMap (·.frame)) g₀ h₀' → Fr h₀' L h' m → News h₀' L h' news' → Below A₀ base outer h₀' → (hd.heap_1 w.params).In h₀' → Top p loose mean mg mb h₀' → KtsDicts (outer.filterMap (·.frame)) h₀' → Q r { s with heap := h', toks := tk' })) :
    wpAny (model PySem.Challenge.rw_pf0386_01.row.prog w) (ktrTop dp un gd cn cs L ad ccd cl outer) (call (.ref f) args) Q E s :=
  C p loose mean mg mb dp un gd cn cs ad ccd cl outer A₀ base h₀ g₀ L m s Q E B F X N T XB TB D T0 H1 H2 hk hdd hu ret
section
theorem refused_x (w : World) (news : Led) (c C : Addr) (d u : Nat) (oc : Value) (od : Option Addr) (fd : FuncData) (sl : Array (Option Value)) (hq : (c, (⟨oc, od, .func fd, sl⟩ : Obj)) ∈ news) (hc : CtrX w c d u [] news C) (hC : ktsIn (hd.heap_1 w.params) C "BaseException" = true) :
    CtrS w 406 (d + 6) (u + 40) [.ref c, .ref C] news (fun R => R news (.bool true)) := by
  k_with_none
  w_top off
  k_with "k_mem" => first | assumption | exact List.mem_cons_self | (refine List.mem_cons_of_mem _ ?_; k_extra "k_mem") | (refine List.mem_append_right _ ?_; k_extra "k_mem") | (refine List.mem_append_left _ ?_; k_extra "k_mem")
  k_with "k_all" => assumption
  k_with "ktr_room" => ((try simp only [depth_under_make, depth_under_kw, depth_in1, depth_deeper, depth_caller]); (try dsimp only [ktrTop]); first | exact room0 (by with_reducible assumption) | exact room1 (by with_reducible assumption) rfl | exact room2 (by with_reducible assumption) rfl | exact room3 (by with_reducible assumption) rfl | exact Nat.le_of_ble_eq_true rfl | lia | omega)
  k_with "k_room" => ktr_room
  k_with "ktr_units" => ((try simp only [units_in1, units_deeper, Around.mark_units, units_caller]); (try dsimp only [ktrTop]); first | exact room0 (by with_reducible assumption) | exact room1 (by with_reducible assumption) rfl | exact room2 (by with_reducible assumption) rfl | exact room3 (by with_reducible assumption) rfl | exact Nat.le_of_ble_eq_true rfl | ((have hcL9 := cLine_is); (first | lia | omega)))
  k_with "k_enter" => (refine' code_defC ?k1_20 ?k2_20 ?k3_20 ?k4_20 ?k5_20 ?kA_20 ?kF_20 ?kK_20 ?k6_20 ?k7_20 ?k8_20 ?k9_20 ?kB_20 ?kD_20 ?_ ?c2_20 ?c3_20 ?c4_20; (case kA_20 => exact rfl); (case kF_20 => exact rfl); (case kK_20 => first | exact rfl | assumption); (case k1_20 => k_asm); (case k2_20 => k_asm); (case k3_20 => k_asm); (case k4_20 => k_asm); (case k5_20 => k_asm); (case k6_20 => k_is); (case k7_20 => k_is); (case k8_20 => k_room); (case k9_20 => first | exact BindsTo.of_eq rfl | exact binds_K (by k_in) rfl (by k_is) rfl rfl rfl | fail "k_enter: no rule for these arguments"); (case kB_20 => exact rfl); (case kD_20 => decide +kernel); (case c2_20 => exact rfl); (case c3_20 => exact rfl); (case c4_20 => exact rfl); k_whole; intro _ _ _ _ _ _ _ N' Y' B' _ _ l1; (try k_lt l1); k_cells Y'; (try simp only [List.cons_append, List.nil_append] at N'); (try dsimp only); (try k_lift B'); (try k_fold))
  k_with "k_enter" => (refine' code_def ?k1_0 ?k2_0 ?k3_0 ?k4_0 ?k5_0 ?kA_0 ?kF_0 ?kK_0 ?k6_0 ?k7_0 ?k8_0 ?k9_0 ?kB_0 ?_ ?c2_0 ?c3_0 ?c4_0 ?c5_0; (case kA_0 => exact rfl); (case kF_0 => exact rfl); (case kK_0 => first | exact rfl | assumption); (case k1_0 => k_asm); (case k2_0 => k_asm); (case k3_0 => k_asm); (case k4_0 => k_asm); (case k5_0 => k_asm); (case k6_0 => k_is); (case k7_0 => k_is); (case k8_0 => k_room); (case k9_0 => first | exact BindsTo.of_eq rfl | exact binds_K (by k_in) rfl (by k_is) rfl rfl rfl | fail "k_enter: no rule for these arguments"); (case c5_0 => decide); (case kB_0 => exact locs rfl); (case c2_0 => exact rfl); (case c3_0 => exact rfl); (case c4_0 => exact rfl); k_whole; intro _ _ _ _ _ _ B' _ _; (try dsimp only); (try k_lift B'); (try k_fold))
  k_with "o call type:tuple" => (k_here; (with_reducible show wpAny _ _ (call (Value.type _) [Value.ref _]) _ _ _); k_dflt (refine call_tuple_tup (News.isTup (by k_asm) (by k_extra "k_mem")) ?_))
  k_with "o call type:bytes" => (k_here; (with_reducible show wpAny _ _ (call (Value.type _) [Value.bytes _ _]) _ _ _); refine call_bytes_same ?_)
  k_with "o call type:tuple" => (k_here; (with_reducible show wpAny _ _ (call (Value.type _) [Value.ref _]) _ _ _); k_dflt (refine' tupleOf_ys ?F_18 ?N_18 ?hm_18 ?hz_18 ?_; (case F_18 => k_asm); (case N_18 => k_asm); (case hm_18 => k_extra "k_mem"); (case hz_18 => first | assumption | exact Nat.le_of_ble_eq_true rfl); k_whole); intro _ _ _ _ l1; (try k_lt l1); (try (revert l1; intro _)); (try k_sweep))
  k_with "o compareOp Eq ref ref" => (k_here; (with_reducible show wpAny _ _ (compareOp _ (Value.ref _) (Value.ref _)) _ _ _); k_dflt (refine' eq_tups_nil (by k_asm) ?ka_8 (by k_extra "k_mem") (by ktr_units) ?_; (case ka_8 => k_extra "k_mem")); (try simp only [reduceCtorEq, decide_false, decide_true, Bool.not_false, Bool.not_true]))
  k_with "o compareOp NotEq ref ref" => (k_here; (with_reducible show wpAny _ _ (compareOp _ (Value.ref _) (Value.ref _)) _ _ _); k_dflt (refine' ne_tups_nil (by k_asm) ?ka_9 (by k_extra "k_mem") (by ktr_units) ?_; (case ka_9 => k_extra "k_mem")); (try simp only [reduceCtorEq, decide_false, decide_true, Bool.not_false, Bool.not_true]))
  k_with "o subscriptTail" => (k_here; (with_reducible show wpAny _ _ (subscriptTail _ _ (Value.ref _) (Value.int 0 _)) _ _ _); k_dflt (refine item_ledT0 (News.isTup (by k_asm) (by k_extra "k_mem")) ?_))
  k_with "o subscriptTail" => (k_here; (with_reducible show wpAny _ _ (subscriptTail _ _ (Value.ref _) (Value.ref _)) _ _ _); k_dflt (refine' from_ledT1 ?F_13 ?N_13 ?ht_13 ?hz_13 ?_; (case F_13 => k_asm); (case N_13 => k_asm); (case ht_13 => k_extra "k_mem"); (case hz_13 => first | assumption | (simp only [List.length_map]; first | exact Nat.le_of_ble_eq_true rfl | lia | omega))); intro _ _ _ _ l1; (try k_lt l1); (try (revert l1; intro _)); (try k_sweep))
  k_with "o binaryOp Add ref ref" => (k_here; (with_reducible show wpAny _ _ (binaryOp _ (Value.ref _) (Value.ref _)) _ _ _); k_dflt (refine' add_ledTm ?F_14 ?N_14 ?ht_14 ?hb_14 ?hz_14 ?_; (case F_14 => k_asm); (case N_14 => k_asm); (case ht_14 => k_extra "k_mem"); (case hb_14 => k_extra "k_mem"); (case hz_14 => (simp only [List.length_map, List.length_nil]; first | exact Nat.le_of_ble_eq_true rfl | lia | omega))); intro _ _ _ _ _ _ _; (try k_sweep))
  k_with "o binaryOp Add ref ref" => (k_here; (with_reducible show wpAny _ _ (binaryOp _ (Value.ref _) (Value.ref _)) _ _ _); k_dflt (refine' add_ledT1 ?F_15 ?N_15 ?ht_15 ?hb_15 ?hz_15 ?_; (case F_15 => k_asm); (case N_15 => k_asm); (case ht_15 => k_extra "k_mem"); (case hb_15 => k_extra "k_mem"); (case hz_15 => (simp only [List.length_map, List.length_nil]; first | exact Nat.le_of_ble_eq_true rfl | lia | omega))); intro _ _ _ _ l1; (try k_lt l1); (try (revert l1; intro _)); (try k_sweep))
  k_with "o binaryOp Add ref ref" => (k_here; (with_reducible show wpAny _ _ (binaryOp _ (Value.ref _) (Value.ref _)) _ _ _); k_dflt (refine' add_ledT0 ?F_16 ?N_16 ?ht_16 ?hb_16 ?hz_16 ?_; (case F_16 => k_asm); (case N_16 => k_asm); (case ht_16 => k_extra "k_mem"); (case hb_16 => k_extra "k_mem"); (case hz_16 => (simp only [List.length_map, List.length_nil]; first | exact Nat.le_of_ble_eq_true rfl | lia | omega))))
  k_with "tbn_conj" => first | exact abv_nil | assumption | exact abv_one (by assumption) | (refine abv_next (by first | assumption | exact And.left (by assumption) | lia | omega) ?_; k_extra "tbn_conj") | exact abv_oneA (by first | assumption | exact And.right (by assumption) | exact And.right (And.right (by assumption))) | (refine abv_all (by assumption) ?_; k_extra "tbn_conj") | (refine abv_allA (by first | assumption | exact And.right (by assumption) | exact And.right (And.right (by assumption))) ?_; k_extra "tbn_conj") | (refine abv_allS (by assumption) (by simp only [List.cons_append, List.append_assoc, List.nil_append]) ?_; k_extra "tbn_conj") | (refine abv_app ?_ ?_ <;> k_extra "tbn_conj")
  k_with "o mem9" => (with_reducible first | exact List.mem_cons_self | (refine List.mem_cons_of_mem _ ?_; k_extra "o mem9") | (refine List.mem_append_right _ ?_; k_extra "o mem9") | (refine List.mem_append_left _ ?_; k_extra "o mem9") | assumption)
  k_with "o subv" => (with_reducible first | exact sub_rfl | exact sub_le | (refine sub_tl ?_; k_extra "o subv") | (refine sub_ri ?_; k_extra "o subv") | (refine sub_lf ?_; k_extra "o subv"))
  k_with "o sub9" => first | k_extra "o subv" | exact sub_nil | ((with_reducible refine sub_cons ?_ ?_); (k_extra "o mem9"); k_extra "o sub9") | ((with_reducible refine sub_app ?_ ?_); k_extra "o sub9"; k_extra "o sub9")
  k_with "ktd_rel" => first | with_reducible assumption | ((with_reducible refine IsFrm.mono ?_ (by with_reducible assumption)); k_extra "o sub9") | ((with_reducible refine IsTag.mono ?_ (by with_reducible assumption)); k_extra "o sub9") | ((with_reducible refine TagsAt.mono ?_ (by with_reducible assumption)); k_extra "o sub9") | ((with_reducible refine RowsAt.mono ?_ (by with_reducible assumption)); k_extra "o sub9") | ((with_reducible refine' IsFrm.of ?q1_39 ?q2_39 ?q3_39); (case q1_39 => k_extra "k_mem"); (case q2_39 => k_extra "k_mem"); (case q3_39 => k_extra "k_mem")) | ((with_reducible refine' IsTag.of ?q1_39 ?q2_39); (case q1_39 => k_extra "k_mem"); (case q2_39 => k_extra "k_mem"))
  k_with "k_all" => first | (refine' allNe_of ?h1_45 ?h2_45; (case h1_45 => assumption); (case h2_45 => first | exact Nat.le_refl _ | exact Nat.le_succ _ | lia | omega)) | (refine' allNe_ofA ?h1_45 ?h2_45; (case h1_45 => assumption); (case h2_45 => first | exact Nat.le_refl _ | exact Nat.le_succ _ | lia | omega)) | (refine' allNe_ofA1 ?h1_45 ?h2_45; (case h1_45 => assumption); (case h2_45 => first | exact Nat.le_refl _ | exact Nat.le_succ _ | lia | omega)) | (refine' allNe_ofA2 ?h1_45 ?h2_45; (case h1_45 => assumption); (case h2_45 => first | exact Nat.le_refl _ | exact Nat.le_succ _ | lia | omega))
  k_with "k_enter" => (refine' codeTC ?k1_56 ?k2_56 ?k3_56 ?k4_56 ?k5_56 ?XB_56 ?TB_56 ?D_56 ?T0_56 ?kA_56 ?kF_56 ?kK_56 ?k6_56 ?k7_56 ?k8_56 ?k9_56 ?kB_56 ?kD_56 ?_ ?c2_56 ?c3_56 ?c4_56; (case kA_56 => exact rfl); (case kF_56 => exact rfl); (case kK_56 => first | exact rfl | assumption); (case k2_56 => assumption); (case k1_56 => assumption); (case XB_56 => assumption); (case TB_56 => assumption); (case D_56 => assumption); (case T0_56 => first | assumption | exact KtsTurn.refl); (case k3_56 => k_asm); (case k4_56 => k_asm); (case k5_56 => k_asm); (case k6_56 => k_is); (case k7_56 => k_is); (case k8_56 => k_room); (case k9_56 => first | exact BindsTo.of_eq rfl | exact binds_K (by k_in) rfl (by k_is) rfl rfl rfl | fail "k_enter: no rule for these arguments"); (case kB_56 => exact rfl); (case kD_56 => decide +kernel); (case c2_56 => exact rfl); (case c3_56 => exact rfl); (case c4_56 => exact rfl); k_whole; intro _ _ _ _ _ _ _ N' Y' B' _ _ l1 _; (try k_lt l1); k_cells Y'; (try simp only [List.cons_append, List.nil_append] at N'); (try dsimp only); (try k_lift B'); (try show wpAny _ _ _ _ _ _); (try k_fold))
  k_with "k_enter" => (refine' codeT ?k1_57 ?k2_57 ?k3_57 ?k4_57 ?k5_57 ?XB_57 ?TB_57 ?D_57 ?T0_57 ?kA_57 ?kF_57 ?kK_57 ?k6_57 ?k7_57 ?k8_57 ?k9_57 ?kB_57 ?_ ?c2_57 ?c3_57 ?c4_57 ?c5_57; (case kA_57 => exact rfl); (case kF_57 => exact rfl); (case kK_57 => first | exact rfl | assumption); (case k2_57 => assumption); (case k1_57 => assumption); (case XB_57 => assumption); (case TB_57 => assumption); (case D_57 => assumption); (case T0_57 => first | assumption | exact KtsTurn.refl); (case k3_57 => k_asm); (case k4_57 => k_asm); (case k5_57 => k_asm); (case k6_57 => k_is); (case k7_57 => k_is); (case k8_57 => k_room); (case k9_57 => first | exact BindsTo.of_eq rfl | exact binds_K (by k_in) rfl (by k_is) rfl rfl rfl | fail "k_enter: no rule for these arguments"); (case c5_57 => decide); (case kB_57 => exact locs rfl); (case c2_57 => exact rfl); (case c3_57 => exact rfl); (case c4_57 => exact rfl); k_whole; intro _ _ _ _ _ _ B' _ _ _; (try dsimp only); (try k_lift B'); (try show wpAny _ _ _ _ _ _); (try k_fold))
  k_with "o LeaveT" => (k_dflt (refine' leaveT_ ?F_58 ?N_58 ?T_58 ?_; (case F_58 => assumption); (case N_58 => assumption); (case T_58 => first | assumption | exact KtsTurn.refl); k_whole); intro _ _ _ _ kB _ _ _; (try k_lift kB); (try dsimp only))
  k_with "o noteFrame ref" => (k_here; k_dflt (refine' caught_XL ?R_59 ?F_59 ?K_59 ?U_59 ?XB_59 ?TB_59 ?D_59 ?T0_59 ?q_59 ?hm_59 ?_; (case R_59 => assumption); (case F_59 => assumption); (case K_59 => assumption); (case U_59 => assumption); (case XB_59 => assumption); (case TB_59 => assumption); (case D_59 => assumption); (case T0_59 => first | assumption | exact KtsTurn.refl); (case q_59 => assumption); (case hm_59 => exact rfl); k_whole); intro _ _ _ _ _ K' _ _ _; (try k_lift K'))
  k_with "o call ref" => (k_here; (with_reducible show wpAny _ _ (call (Value.ref _) []) _ _ _); k_dflt (refine' CtrX.use (by assumption) ?k1_60 ?k2_60 ?k3_60 ?k4_60 ?k5_60 ?kK_60 ?kd_60 ?ku_60 ?_; (case k2_60 => k_asm); (case k1_60 => k_asm); (case k3_60 => k_asm); (case k4_60 => k_asm); (case k5_60 => k_asm); (case kK_60 => first | exact rfl | assumption); (case kd_60 => ktr_room); (case ku_60 => ktr_units); k_whole; intro _ _ _ _ _ _ _; (try dsimp only)))
  k_with "o callWith ref" => (k_here; k_dflt (refine' callWith_F0 ?k1_61 ?_; (case k1_61 => exact FnAt.of (by k_asm) (by assumption)); k_whole; try dsimp only [List.nil_append, List.cons_append]))
  intro p loose mean mg mb dp un gd cn cs ad ccd cl outer A₀ base h₀ g₀ L m s Q E B F X N T XB TB D T0 H1 H2 hk hd' hu hret
  k_steps
  all_goals exact hret _ _ _ (by assumption) (by assumption) (by assumption) (by assumption) (by assumption) (by assumption) (by assumption)
end
end
section
open PySem PySem.W PyProof.Rows PySem.Calls PySem.Spec
set_option maxRecDepth 100000
set_option maxHeartbeats 8000000
section
theorem lam_popped (w : World) (news : Led) (f c1 c' x : Addr) (oc o1 : Obj) (vs : Array Value) (t : Tok) (ln qual : Str) (pm ctv : Value) (p1 p2 p3 p4 : Pos) (fv : FrameV)
    (h1 : (f, kla_obj ln qual { posonlyargs := [], args := [], vararg := none, kwonlyargs := [], kw_defaults := [], kwarg := none, defaults := [] } (.Call (.Name (Str.ofString "popped") p1) [.Name (Str.ofString "frame") p2] [] p3) { kind := .function, names := [(Str.ofString "frame", .free), (Str.ofString "popped", .globalImplicit)], isGenerator := false, isCoroutine := false } [(Str.ofString "frame", c1)] pm c' ctv) ∈ news)
    (h2 : (c', oc) ∈ news) (hdd : oc.data = .fields vs) (hvv : vs[1]? = some (.str qual t)) (h3 : (c1, o1) ∈ news) (ho1 : o1.data = .cell (some (.ref x))) (hf : IsFrm w news x fv []) :
    CtrX w f 30 340 [] news 44 := by
  k_with_none
  w_top off
  k_with "k_mem" => first | assumption | exact List.mem_cons_self | (refine List.mem_cons_of_mem _ ?_; k_extra "k_mem") | (refine List.mem_append_right _ ?_; k_extra "k_mem") | (refine List.mem_append_left _ ?_; k_extra "k_mem")
  k_with "k_all" => assumption
  k_with "ktr_room" => ((try simp only [depth_under_make, depth_under_kw, depth_in1, depth_deeper, depth_caller]); (try dsimp only [ktrTop]); first | exact room0 (by with_reducible assumption) | exact room1 (by with_reducible assumption) rfl | exact room2 (by with_reducible assumption) rfl | exact room3 (by with_reducible assumption) rfl | exact Nat.le_of_ble_eq_true rfl | lia | omega)
  k_with "k_room" => ktr_room
  k_with "ktr_units" => ((try simp only [units_in1, units_deeper, Around.mark_units, units_caller]); (try dsimp only [ktrTop]); first | exact room0 (by with_reducible assumption) | exact room1 (by with_reducible assumption) rfl | exact room2 (by with_reducible assumption) rfl | exact room3 (by with_reducible assumption) rfl | exact Nat.le_of_ble_eq_true rfl | ((have hcL9 := cLine_is); (first | lia | omega)))
  k_with "k_enter" => (refine' code_defC ?k1_20 ?k2_20 ?k3_20 ?k4_20 ?k5_20 ?kA_20 ?kF_20 ?kK_20 ?k6_20 ?k7_20 ?k8_20 ?k9_20 ?kB_20 ?kD_20 ?_ ?c2_20 ?c3_20 ?c4_20; (case kA_20 => exact rfl); (case kF_20 => exact rfl); (case kK_20 => first | exact rfl | assumption); (case k1_20 => k_asm); (case k2_20 => k_asm); (case k3_20 => k_asm); (case k4_20 => k_asm); (case k5_20 => k_asm); (case k6_20 => k_is); (case k7_20 => k_is); (case k8_20 => k_room); (case k9_20 => first | exact BindsTo.of_eq rfl | exact binds_K (by k_in) rfl (by k_is) rfl rfl rfl | fail "k_enter: no rule for these arguments"); (case kB_20 => exact rfl); (case kD_20 => decide +kernel); (case c2_20 => exact rfl); (case c3_20 => exact rfl); (case c4_20 => exact rfl); k_whole; intro _ _ _ _ _ _ _ N' Y' B' _ _ l1; (try k_lt l1); k_cells Y'; (try simp only [List.cons_append, List.nil_append] at N'); (try dsimp only); (try k_lift B'); (try k_fold))
  k_with "k_enter" => (refine' code_def ?k1_0 ?k2_0 ?k3_0 ?k4_0 ?k5_0 ?kA_0 ?kF_0 ?kK_0 ?k6_0 ?k7_0 ?k8_0 ?k9_0 ?kB_0 ?_ ?c2_0 ?c3_0 ?c4_0 ?c5_0; (case kA_0 => exact rfl); (case kF_0 => exact rfl); (case kK_0 => first | exact rfl | assumption); (case k1_0 => k_asm); (case k2_0 => k_asm); (case k3_0 => k_asm); (case k4_0 => k_asm); (case k5_0 => k_asm); (case k6_0 => k_is); (case k7_0 => k_is); (case k8_0 => k_room); (case k9_0 => first | exact BindsTo.of_eq rfl | exact binds_K (by k_in) rfl (by k_is) rfl rfl rfl | fail "k_enter: no rule for these arguments"); (case c5_0 => decide); (case kB_0 => exact locs rfl); (case c2_0 => exact rfl); (case c3_0 => exact rfl); (case c4_0 => exact rfl); k_whole; intro _ _ _ _ _ _ B' _ _; (try dsimp only); (try k_lift B'); (try k_fold))
  k_with "o call type:tuple" => (k_here; (with_reducible show wpAny _ _ (call (Value.type _) [Value.ref _]) _ _ _); k_dflt (refine call_tuple_tup (News.isTup (by k_asm) (by k_extra "k_mem")) ?_))
  k_with "o call type:bytes" => (k_here; (with_reducible show wpAny _ _ (call (Value.type _) [Value.bytes _ _]) _ _ _); refine call_bytes_same ?_)
  k_with "o call type:tuple" => (k_here; (with_reducible show wpAny _ _ (call (Value.type _) [Value.ref _]) _ _ _); k_dflt (refine' tupleOf_ys ?F_18 ?N_18 ?hm_18 ?hz_18 ?_; (case F_18 => k_asm); (case N_18 => k_asm); (case hm_18 => k_extra "k_mem"); (case hz_18 => first | assumption | exact Nat.le_of_ble_eq_true rfl); k_whole); intro _ _ _ _ l1; (try k_lt l1); (try (revert l1; intro _)); (try k_sweep))
  k_with "o compareOp Eq ref ref" => (k_here; (with_reducible show wpAny _ _ (compareOp _ (Value.ref _) (Value.ref _)) _ _ _); k_dflt (refine' eq_tups_nil (by k_asm) ?ka_8 (by k_extra "k_mem") (by ktr_units) ?_; (case ka_8 => k_extra "k_mem")); (try simp only [reduceCtorEq, decide_false, decide_true, Bool.not_false, Bool.not_true]))
  k_with "o compareOp NotEq ref ref" => (k_here; (with_reducible show wpAny _ _ (compareOp _ (Value.ref _) (Value.ref _)) _ _ _); k_dflt (refine' ne_tups_nil (by k_asm) ?ka_9 (by k_extra "k_mem") (by ktr_units) ?_; (case ka_9 => k_extra "k_mem")); (try simp only [reduceCtorEq, decide_false, decide_true, Bool.not_false, Bool.not_true]))
  k_with "o subscriptTail" => (k_here; (with_reducible show wpAny _ _ (subscriptTail _ _ (Value.ref _) (Value.int 0 _)) _ _ _); k_dflt (refine item_ledT0 (News.isTup (by k_asm) (by k_extra "k_mem")) ?_))
  k_with "o subscriptTail" => (k_here; (with_reducible show wpAny _ _ (subscriptTail _ _ (Value.ref _) (Value.ref _)) _ _ _); k_dflt (refine' from_ledT1 ?F_13 ?N_13 ?ht_13 ?hz_13 ?_; (case F_13 => k_asm); (case N_13 => k_asm); (case ht_13 => k_extra "k_mem"); (case hz_13 => first | assumption | (simp only [List.length_map]; first | exact Nat.le_of_ble_eq_true rfl | lia | omega))); intro _ _ _ _ l1; (try k_lt l1); (try (revert l1; intro _)); (try k_sweep))
  k_with "o binaryOp Add ref ref" => (k_here; (with_reducible show wpAny _ _ (binaryOp _ (Value.ref _) (Value.ref _)) _ _ _); k_dflt (refine' add_ledTm ?F_14 ?N_14 ?ht_14 ?hb_14 ?hz_14 ?_; (case F_14 => k_asm); (case N_14 => k_asm); (case ht_14 => k_extra "k_mem"); (case hb_14 => k_extra "k_mem"); (case hz_14 => (simp only [List.length_map, List.length_nil]; first | exact Nat.le_of_ble_eq_true rfl | lia | omega))); intro _ _ _ _ _ _ _; (try k_sweep))
  k_with "o binaryOp Add ref ref" => (k_here; (with_reducible show wpAny _ _ (binaryOp _ (Value.ref _) (Value.ref _)) _ _ _); k_dflt (refine' add_ledT1 ?F_15 ?N_15 ?ht_15 ?hb_15 ?hz_15 ?_; (case F_15 => k_asm); (case N_15 => k_asm); (case ht_15 => k_extra "k_mem"); (case hb_15 => k_extra "k_mem"); (case hz_15 => (simp only [List.length_map, List.length_nil]; first | exact Nat.le_of_ble_eq_true rfl | lia | omega))); intro _ _ _ _ l1; (try k_lt l1); (try (revert l1; intro _)); (try k_sweep))
  k_with "o binaryOp Add ref ref" => (k_here; (with_reducible show wpAny _ _ (binaryOp _ (Value.ref _) (Value.ref _)) _ _ _); k_dflt (refine' add_ledT0 ?F_16 ?N_16 ?ht_16 ?hb_16 ?hz_16 ?_; (case F_16 => k_asm); (case N_16 => k_asm); (case ht_16 => k_extra "k_mem"); (case hb_16 => k_extra "k_mem"); (case hz_16 => (simp only [List.length_map, List.length_nil]; first | exact Nat.le_of_ble_eq_true rfl | lia | omega))))
  k_with "tbn_conj" => first | exact abv_nil | assumption | exact abv_one (by assumption) | (refine abv_next (by first | assumption | exact And.left (by assumption) | lia | omega) ?_; k_extra "tbn_conj") | exact abv_oneA (by first | assumption | exact And.right (by assumption) | exact And.right (And.right (by assumption))) | (refine abv_all (by assumption) ?_; k_extra "tbn_conj") | (refine abv_allA (by first | assumption | exact And.right (by assumption) | exact And.right (And.right (by assumption))) ?_; k_extra "tbn_conj") | (refine abv_allS (by assumption) (by simp only [List.cons_append, List.append_assoc, List.nil_append]) ?_; k_extra "tbn_conj") | (refine abv_app ?_ ?_ <;> k_extra "tbn_conj")
  k_with "o mem9" => (with_reducible first | exact List.mem_cons_self | (refine List.mem_cons_of_mem _ ?_; k_extra "o mem9") | (refine List.mem_append_right _ ?_; k_extra "o mem9") | (refine List.mem_append_left _ ?_; k_extra "o mem9") | assumption)
  k_with "o subv" => (with_reducible first | exact sub_rfl | exact sub_le | (refine sub_tl ?_; k_extra "o subv") | (refine sub_ri ?_; k_extra "o subv") | (refine sub_lf ?_; k_extra "o subv"))
  k_with "o sub9" => first | k_extra "o subv" | exact sub_nil | ((with_reducible refine sub_cons ?_ ?_); (k_extra "o mem9"); k_extra "o sub9") | ((with_reducible refine sub_app ?_ ?_); k_extra "o sub9"; k_extra "o sub9")
  k_with "ktd_rel" => first | with_reducible assumption | ((with_reducible refine IsFrm.mono ?_ (by with_reducible assumption)); k_extra "o sub9") | ((with_reducible refine IsTag.mono ?_ (by with_reducible assumption)); k_extra "o sub9") | ((with_reducible refine TagsAt.mono ?_ (by with_reducible assumption)); k_extra "o sub9") | ((with_reducible refine RowsAt.mono ?_ (by with_reducible assumption)); k_extra "o sub9") | ((with_reducible refine' IsFrm.of ?q1_39 ?q2_39 ?q3_39); (case q1_39 => k_extra "k_mem"); (case q2_39 => k_extra "k_mem"); (case q3_39 => k_extra "k_mem")) | ((with_reducible refine' IsTag.of ?q1_39 ?q2_39); (case q1_39 => k_extra "k_mem"); (case q2_39 => k_extra "k_mem"))
  k_with "k_all" => first | (refine' allNe_of ?h1_45 ?h2_45; (case h1_45 => assumption); (case h2_45 => first | exact Nat.le_refl _ | exact Nat.le_succ _ | lia | omega)) | (refine' allNe_ofA ?h1_45 ?h2_45; (case h1_45 => assumption); (case h2_45 => first | exact Nat.le_refl _ | exact Nat.le_succ _ | lia | omega)) | (refine' allNe_ofA1 ?h1_45 ?h2_45; (case h1_45 => assumption); (case h2_45 => first | exact Nat.le_refl _ | exact Nat.le_succ _ | lia | omega)) | (refine' allNe_ofA2 ?h1_45 ?h2_45; (case h1_45 => assumption); (case h2_45 => first | exact Nat.le_refl _ | exact Nat.le_succ _ | lia | omega))
  k_with "o exec Raise some none" => (k_here; k_dflt (refine raise_own rfl ?_))
  k_with "o RaiseEnd" => ((with_reducible show RaiseEnd _ _ _ _); first | (refine' RaiseEnd.of (C := 44) (fI := 28) (excMakes_of ?X_51 ?q_51) ?he_51 ?hc_51 ?hd_51 ?h1_51 ?_; (case X_51 => exact Frag.In.keeps (by k_asm) (Fr.keep (by k_asm))); (case q_51 => exact rfl); (case he_51 => exact News.get (by k_asm) List.mem_cons_self); (case hc_51 => exact rfl); (case hd_51 => exact rfl); (case h1_51 => exact rfl); (try dsimp only)) | (refine' RaiseEnd.of (C := 56) (fI := 28) (excMakes_of ?X_51 ?q_51) ?he_51 ?hc_51 ?hd_51 ?h1_51 ?_; (case X_51 => exact Frag.In.keeps (by k_asm) (Fr.keep (by k_asm))); (case q_51 => exact rfl); (case he_51 => exact News.get (by k_asm) List.mem_cons_self); (case hc_51 => exact rfl); (case hd_51 => exact rfl); (case h1_51 => exact rfl); (try dsimp only)))
  k_with "o leaving ref" => (k_here; first | (k_dflt (refine' pass_ownS ?hf_52 ?K_52 ?F_52 ?R_52 ?U_52 ?_; (case R_52 => assumption); (case hf_52 => rfl); (case K_52 => assumption); (case F_52 => assumption); (case U_52 => assumption); k_whole); intro _ _ _) | (k_dflt (refine' leave_ownS ?hf_52 ?hk_52 ?K_52 ?F_52 ?N_52 ?off_52 ?hd_52 ?h1_52 ?h0_52 ?_; (case hf_52 => rfl); (case hk_52 => rfl); (case F_52 => assumption); (case N_52 => assumption); (case K_52 => assumption); (case hd_52 => rfl); (case h1_52 => rfl); (case h0_52 => rfl); (case off_52 => k_all); k_whole); intro _ _ _))
  k_with "o eval Name" => (k_here; k_dflt (refine' nameX_F ?N_62 ?c_62 ?m_62 ?d_62 ?_ ?a_62 ?b_62; (case a_62 => rfl); (case b_62 => rfl); (case N_62 => k_asm); (case c_62 => rfl); (case m_62 => k_extra "k_mem"); (case d_62 => k_asm); k_whole))
  k_with "o call ref" => (k_here; (with_reducible show wpAny _ _ (call (Value.ref _) []) _ _ _); k_dflt (refine wpAny_call ?_; (refine' kla_code ?k1_63 ?k2_63 ?k3_63 ?k4_63 ?k5_63 ?kA_63 ?kF_63 ?kK_63 ?k6_63 ?k7_63 ?k8_63 ?k9_63 ?kB_63 ?_ ?c2_63 ?c3_63 ?c4_63 ?c5_63; (case kA_63 => exact rfl); (case kF_63 => exact rfl); (case kK_63 => first | exact rfl | assumption); (case k1_63 => k_asm); (case k2_63 => k_asm); (case k3_63 => k_asm); (case k4_63 => k_asm); (case k5_63 => k_asm); (case k6_63 => k_extra "k_mem"); (case k7_63 => exact codeRec_news (by k_asm) (by k_extra "k_mem") (by assumption) (by assumption)); (case k8_63 => k_room); (case k9_63 => exact rfl); (case c5_63 => decide); (case kB_63 => exact locs rfl); (case c2_63 => exact rfl); (case c3_63 => exact rfl); (case c4_63 => exact rfl); k_whole; intro _ _ _ _ _ _ B' _ _; (try dsimp only); (try k_lift B'); (try k_fold))))
  k_with "o call ref" => (k_here; (with_reducible show wpAny _ _ (call (Value.ref 338) _) _ _ _); refine stop_of ?_)
  k_with "o call ref" => (k_here; (with_reducible show wpAny _ _ (call (Value.ref 338) _) _ _ _); k_dflt (refine' CtrX.use (popped_x _ _ _ _ ?kc_64) ?k1_64 ?k2_64 ?k3_64 ?k4_64 ?k5_64 ?kK_64 ?kd_64 ?ku_64 ?_; (case k1_64 => k_asm); (case k2_64 => k_asm); (case k3_64 => k_asm); (case k4_64 => k_asm); (case k5_64 => k_asm); (case kK_64 => first | exact rfl | assumption); (case kd_64 => ktr_room); (case ku_64 => ktr_units); (case kc_64 => k_extra "ktd_rel"); k_whole; intro _ _ _ _ _ _ _; (try dsimp only)))
  k_with "o call ref" => (k_here; (with_reducible show wpAny _ _ (call (Value.ref 359) _) _ _ _); refine stop_of ?_)
  k_with "o call ref" => (k_here; (with_reducible show wpAny _ _ (call (Value.ref 359) _) _ _ _); k_dflt (refine' CtrX.use (with_vlan_x _ _ _ _ ?kc_65 _ _) ?k1_65 ?k2_65 ?k3_65 ?k4_65 ?k5_65 ?kK_65 ?kd_65 ?ku_65 ?_; (case k1_65 => k_asm); (case k2_65 => k_asm); (case k3_65 => k_asm); (case k4_65 => k_asm); (case k5_65 => k_asm); (case kK_65 => first | exact rfl | assumption); (case kd_65 => ktr_room); (case ku_65 => ktr_units); (case kc_65 => k_extra "ktd_rel"); k_whole; intro _ _ _ _ _ _ _; (try dsimp only)))
  k_with "o call ref" => (k_here; (with_reducible show wpAny _ _ (call (Value.ref 366) _) _ _ _); refine stop_of ?_)
  k_with "o call ref" => (k_here; (with_reducible show wpAny _ _ (call (Value.ref 366) _) _ _ _); k_dflt (refine' CtrX.use (with_priority_x _ _ _ _ ?kc_66 _ _) ?k1_66 ?k2_66 ?k3_66 ?k4_66 ?k5_66 ?kK_66 ?kd_66 ?ku_66 ?_; (case k1_66 => k_asm); (case k2_66 => k_asm); (case k3_66 => k_asm); (case k4_66 => k_asm); (case k5_66 => k_asm); (case kK_66 => first | exact rfl | assumption); (case kd_66 => ktr_room); (case ku_66 => ktr_units); (case kc_66 => k_extra "ktd_rel"); k_whole; intro _ _ _ _ _ _ _; (try dsimp only)))
  intro pr loose mean mg mb dp un gd cn cs ad ccd cl outer A₀ base h₀ L m s Q E B F X N T hk hd' hu hret
  k_steps
  all_goals
    refine' hret _ _ _ _ ?e1 (RaisedSN.sub ?e2 ?e3) ?e4
    (case e2 => assumption)
    (case e1 => assumption)
    (case e4 => assumption)
    (case e3 => exact fun q hq => hq)
theorem lam_vlan (w : World) (news : Led) (f c1 c2 c' x : Addr) (oc o1 o2 : Obj) (vs : Array Value) (t : Tok) (ln qual : Str) (pm ctv : Value) (p1 p2 p3 p4 : Pos) (fv : FrameV) (v : Int) (tv : Tok)
    (h1 : (f, kla_obj ln qual { posonlyargs := [], args := [], vararg := none, kwonlyargs := [], kw_defaults := [], kwarg := none, defaults := [] } (.Call (.Name (Str.ofString "with_vlan") p1) [.Name (Str.ofString "frame") p2, .Name (Str.ofString "vlan") p4] [] p3) { kind := .function, names := [(Str.ofString "frame", .free), (Str.ofString "vlan", .free), (Str.ofString "with_vlan", .globalImplicit)], isGenerator := false, isCoroutine := false } [(Str.ofString "vlan", c2), (Str.ofString "frame", c1)] pm c' ctv) ∈ news)
    (h2 : (c', oc) ∈ news) (hdd : oc.data = .fields vs) (hvv : vs[1]? = some (.str qual t)) (h3 : (c1, o1) ∈ news) (ho1 : o1.data = .cell (some (.ref x))) (h4 : (c2, o2) ∈ news) (ho2 : o2.data = .cell (some (.int v tv))) (hf : IsFrm w news x fv []) :
    CtrX w f 30 340 [] news 44 := by
  w_top off
  intro pr loose mean mg mb dp un gd cn cs ad ccd cl outer A₀ base h₀ L m s Q E B F X N T hk hd' hu hret
  k_steps
  all_goals
    refine' hret _ _ _ _ ?e1 (RaisedSN.sub ?e2 ?e3) ?e4
    (case e2 => assumption)
    (case e1 => assumption)
    (case e4 => assumption)
    (case e3 => exact fun q hq => hq)
theorem lam_priority (w : World) (news : Led) (f c1 c2 c' x : Addr) (oc o1 o2 : Obj) (vs : Array Value) (t : Tok) (ln qual : Str) (pm ctv : Value) (p1 p2 p3 p4 : Pos) (fv : FrameV) (v : Int) (tv : Tok)
    (h1 : (f, kla_obj ln qual { posonlyargs := [], args := [], vararg := none, kwonlyargs := [], kw_defaults := [], kwarg := none, defaults := [] } (.Call (.Name (Str.ofString "with_priority") p1) [.Name (Str.ofString "frame") p2, .Name (Str.ofString "priority") p4] [] p3) { kind := .function, names := [(Str.ofString "frame", .free), (Str.ofString "priority", .free), (Str.ofString "with_priority", .globalImplicit)], isGenerator := false, isCoroutine := false } [(Str.ofString "priority", c2), (Str.ofString "frame", c1)] pm c' ctv) ∈ news)
    (h2 : (c', oc) ∈ news) (hdd : oc.data = .fields vs) (hvv : vs[1]? = some (.str qual t)) (h3 : (c1, o1) ∈ news) (ho1 : o1.data = .cell (some (.ref x))) (h4 : (c2, o2) ∈ news) (ho2 : o2.data = .cell (some (.int v tv))) (hf : IsFrm w news x fv []) :
    CtrX w f 30 340 [] news 44 := by
  w_top off
  intro pr loose mean mg mb dp un gd cn cs ad ccd cl outer A₀ base h₀ L m s Q E B F X N T hk hd' hu hret
  k_steps
  all_goals
    refine' hret _ _ _ _ ?e1 (RaisedSN.sub ?e2 ?e3) ?e4
    (case e2 => assumption)
    (case e1 => assumption)
    (case e4 => assumption)
    (case e3 => exact fun q hq => hq)
end
end
section
open PySem PySem.W PyProof.Rows PySem.Calls PySem.Spec
set_option maxRecDepth 100000
set_option maxHeartbeats 800000
/-- the ground of a def under which frames may turn -/
noncomputable def GPS (w : World) (pr : Program) (loose : List Str) (mean : ExcName → Option Value) (mg mb : Str → Option Value) (A₀ : Around) (base : Heap) (outer : List Env) (g₀ g : Heap) : Prop :=
  KtsTurn (outer.filterMap (·.frame)) g₀ g ∧ Below A₀ base outer g ∧ (hd.heap_1 w.params).In g ∧ Top pr loose mean mg mb g ∧ KtsDicts (outer.filterMap (·.frame)) g
theorem GPS.of {w : World} {pr : Program} {loose : List Str} {mean : ExcName → Option Value} {mg mb : Str → Option Value} {A₀ : Around} {base : Heap} {outer : List Env} {g₀ g : Heap} (B : Below A₀ base outer g) (X : (hd.heap_1 w.params).In g) (T : Top pr loose mean mg mb g) (D : KtsDicts (outer.filterMap (·.frame)) g) (K : KtsTurn (outer.filterMap (·.frame)) g₀ g) : GPS w pr loose mean mg mb A₀ base outer g₀ g := ⟨K, B, X, T, D⟩
theorem NoneSrc.of {prog : Program} {w : World} {A : Around} {GP : Heap → Prop} {L : Addr} {m : Str → Option Value} {env : Env} {ct : PySem.Expr} {x : Str} {scope : Scope} {cl : List (Str × Addr)} {Q : Value → Shared → Prop} {s₁ : Shared} {ax : Addr} {its : Array Value} {k : Nat} {news : Led} {g₁ : Heap}
    (hh : A.handled = none) (F : Fr g₁ L s₁.heap m) (N : News g₁ L s₁.heap news) (hm : (ax, ({ cls := .type "list", data := .seq its k } : Obj)) ∈ news) (hsz : its.size ≤ sizeLine) (G : GP g₁)
    (turn : ∀ (i : Nat) v g h I oI C oC D m₂ tk (E' : Value → Shared → Prop), its[i]? = some v → GP g → LCg.NsObj oC m₂ → m₂ x = some v → Fr g L h m → News g L h ((I, oI) :: (C, oC) :: (D, LCg.lst []) :: news) → LCg.Off3 I C D news →
      wpAny (model prog w) A (isTrue ct (compEnvC scope cl C env) (eval ct (compEnvC scope cl C env))) (TestNo GP L m s₁ ((I, oI) :: (C, oC) :: (D, LCg.lst []) :: news)) E' { s₁ with heap := h, toks := tk })
    (fin : ∀ D g h tk, GP g → Fr g L h m → News g L h ((D, LCg.lst []) :: news) → Q (.ref D) { s₁ with heap := h, toks := tk }) : NoneSrc prog w A GP L m env ct x scope cl Q (.ref ax) s₁ :=
  ⟨ax, its, k, news, g₁, rfl, hh, G, F, N, hm, hsz, turn, fin⟩
theorem ListComp_noneS {prog : Program} {w : World} {A : Around} {E : Value → Shared → Prop} {s : Shared} {L : Addr} {m : Str → Option Value} {env : Env} {pr : Program} {loose : List Str} {mean : ExcName → Option Value} {mg mb : Str → Option Value} {A₀ : Around} {base g₁ g₀ : Heap} {outer : List Env}
    {elt ct iter : PySem.Expr} {x : Str} {px : Pos} {scope : Scope} {cl : List (Str × Addr)} {pos : Pos} {Q : Value → Shared → Prop}
    (_F : Fr g₁ L s.heap m) (_B : Below A₀ base outer g₁) (_XB : (hd.heap_1 w.params).In base) (_TB : Top pr loose mean mg mb base) (_T0 : KtsTurn (outer.filterMap (·.frame)) g₀ g₁)
    (hclos : closureFor scope env = pure cl) (hcell : ∀ y ∈ scope.names, y.2 ≠ .cell) (hkind : scope.kind = .function)
    (hnames : ∀ y ∈ scope.names, y.2 = .local → scope.names.lookup y.1 = some .local) (hx : scope.names.lookup x = some .local)
    (h : wpAny (model prog w) A (eval iter env) (NoneSrc prog w A (GPS w pr loose mean mg mb A₀ base outer g₀) L m env ct x scope cl Q) E s)
    (hs : ∀ x, foldedSetIterable iter env x = pure x) :
    wpAny (model prog w) A (eval (.ListComp elt [⟨.Name x px, iter, [ct], 0⟩] scope pos) env) Q E s := ListComp_none _ hclos hcell hkind hnames hx h hs
theorem three_of {a b c v : Value} {i : Nat} (h : (#[a, b, c] : Array Value)[i]? = some v) : v = a ∨ v = b ∨ v = c := by
  match i, h with
  | 0, h => simp at h; exact .inl h.symm
  | 1, h => simp at h; exact .inr (.inl h.symm)
  | 2, h => simp at h; exact .inr (.inr h.symm)
  | (n + 3), h => simp at h
noncomputable abbrev bareTab (c1 c2 c3 : Addr) : Obj := tabObj (#[] ++ #[rawInt ((181 : Nat) : Int), rawInt ((0 : Nat) : Int), .ref c1] ++ #[rawInt ((182 : Nat) : Int), rawInt ((0 : Nat) : Int), .ref c2] ++ #[rawInt ((183 : Nat) : Int), rawInt ((0 : Nat) : Int), .ref c3])
noncomputable def CodeObj (q : Str) (o : Obj) : Prop := ∃ vs t, o.data = .fields vs ∧ vs[1]? = some (.str q t)
theorem CodeObj.of {q : Str} {o : Obj} {vs : Array Value} {t : Tok} (d : o.data = .fields vs) (v : vs[1]? = some (.str q t)) : CodeObj q o := ⟨vs, t, d, v⟩
noncomputable def bareQ : Str := (Str.ofString "_law_bare_right" ++ ".<locals>.") ++ Str.ofString "<lambda>"
theorem allLt_all {d : Nat} : ∀ {l : Led}, AllLt d l → ∀ q ∈ l, @LT.lt Nat _ q.1 d
  | [], _, _, h => nomatch h
  | _ :: _, x, q, h => by
    rcases List.mem_cons.mp h with rfl | h
    · exact x.1
    · exact allLt_all x.2 q h
theorem news_pick {h₀ h : Heap} {L : Addr} {a b c t : Addr × Obj} {l r : Led} (N : News h₀ L h r) (mt : t ∈ r) (mc : c ∈ r) (mb : b ∈ r) (ma : a ∈ r) (ml : ∀ q ∈ l, q ∈ r) : News h₀ L h (a :: b :: c :: t :: l) := fun q hq => N q (by
  rcases List.mem_cons.mp hq with rfl | hq
  · exact ma
  rcases List.mem_cons.mp hq with rfl | hq
  · exact mb
  rcases List.mem_cons.mp hq with rfl | hq
  · exact mc
  rcases List.mem_cons.mp hq with rfl | hq
  · exact mt
  · exact ml q hq)
section
theorem bare_fresh (w : World) (news : Led) (x : Addr) (f : FrameV) (hf : IsFrm w news x f []) (v p : Int) (tv tp : Tok) (hn : ∀ q ∈ news, q.1 ≠ 408) :
    CtrS w 411 60 600 [.ref x, .int v tv, .int p tp] ((408, tabObj #[]) :: news) (fun R => ∀ c1 c2 c3 o1 o2 o3, (∀ q ∈ news, @LT.lt Nat _ q.1 c1) → @LT.lt Nat _ 408 c1 → @LT.lt Nat _ c1 c2 → @LT.lt Nat _ c2 c3 → CodeObj bareQ o1 → CodeObj bareQ o2 → CodeObj bareQ o3 → R ((c3, o3) :: (c2, o2) :: (c1, o1) :: (408, bareTab c1 c2 c3) :: news) (.bool true)) := by
  k_with_none
  w_top off
  k_with "k_mem" => first | assumption | exact List.mem_cons_self | (refine List.mem_cons_of_mem _ ?_; k_extra "k_mem") | (refine List.mem_append_right _ ?_; k_extra "k_mem") | (refine List.mem_append_left _ ?_; k_extra "k_mem")
  k_with "k_all" => assumption
  k_with "ktr_room" => ((try simp only [depth_under_make, depth_under_kw, depth_in1, depth_deeper, depth_caller]); (try dsimp only [ktrTop]); first | exact room0 (by with_reducible assumption) | exact room1 (by with_reducible assumption) rfl | exact room2 (by with_reducible assumption) rfl | exact room3 (by with_reducible assumption) rfl | exact Nat.le_of_ble_eq_true rfl | omega)
  k_with "k_room" => ktr_room
  k_with "ktr_units" => ((try simp only [units_in1, units_deeper, Around.mark_units, units_caller]); (try dsimp only [ktrTop]); first | exact room0 (by with_reducible assumption) | exact room1 (by with_reducible assumption) rfl | exact room2 (by with_reducible assumption) rfl | exact room3 (by with_reducible assumption) rfl | exact Nat.le_of_ble_eq_true rfl | ((have hcL9 := cLine_is); omega))
  k_with "k_enter" => (refine' code_defC ?k1_20 ?k2_20 ?k3_20 ?k4_20 ?k5_20 ?kA_20 ?kF_20 ?kK_20 ?k6_20 ?k7_20 ?k8_20 ?k9_20 ?kB_20 ?kD_20 ?_ ?c2_20 ?c3_20 ?c4_20; (case kA_20 => exact rfl); (case kF_20 => exact rfl); (case kK_20 => first | exact rfl | assumption); (case k1_20 => k_asm); (case k2_20 => k_asm); (case k3_20 => k_asm); (case k4_20 => k_asm); (case k5_20 => k_asm); (case k6_20 => k_is); (case k7_20 => k_is); (case k8_20 => k_room); (case k9_20 => first | exact BindsTo.of_eq rfl | exact binds_K (by k_in) rfl (by k_is) rfl rfl rfl | fail "k_enter: no rule for these arguments"); (case kB_20 => exact rfl); (case kD_20 => decide +kernel); (case c2_20 => exact rfl); (case c3_20 => exact rfl); (case c4_20 => exact rfl); k_whole; intro _ _ _ _ _ _ _ N' Y' B' _ _ l1; (try k_lt l1); k_cells Y'; (try simp only [List.cons_append, List.nil_append] at N'); (try dsimp only); (try k_lift B'); (try k_fold))
  k_with "k_enter" => (refine' code_def ?k1_0 ?k2_0 ?k3_0 ?k4_0 ?k5_0 ?kA_0 ?kF_0 ?kK_0 ?k6_0 ?k7_0 ?k8_0 ?k9_0 ?kB_0 ?_ ?c2_0 ?c3_0 ?c4_0 ?c5_0; (case kA_0 => exact rfl); (case kF_0 => exact rfl); (case kK_0 => first | exact rfl | assumption); (case k1_0 => k_asm); (case k2_0 => k_asm); (case k3_0 => k_asm); (case k4_0 => k_asm); (case k5_0 => k_asm); (case k6_0 => k_is); (case k7_0 => k_is); (case k8_0 => k_room); (case k9_0 => first | exact BindsTo.of_eq rfl | exact binds_K (by k_in) rfl (by k_is) rfl rfl rfl | fail "k_enter: no rule for these arguments"); (case c5_0 => decide); (case kB_0 => exact locs rfl); (case c2_0 => exact rfl); (case c3_0 => exact rfl); (case c4_0 => exact rfl); k_whole; intro _ _ _ _ _ _ B' _ _; (try dsimp only); (try k_lift B'); (try k_fold))
  k_with "o call type:tuple" => (k_here; (with_reducible show wpAny _ _ (call (Value.type _) [Value.ref _]) _ _ _); k_dflt (refine call_tuple_tup (News.isTup (by k_asm) (by k_extra "k_mem")) ?_))
  k_with "o call type:bytes" => (k_here; (with_reducible show wpAny _ _ (call (Value.type _) [Value.bytes _ _]) _ _ _); refine call_bytes_same ?_)
  k_with "o call type:tuple" => (k_here; (with_reducible show wpAny _ _ (call (Value.type _) [Value.ref _]) _ _ _); k_dflt (refine' tupleOf_ys ?F_18 ?N_18 ?hm_18 ?hz_18 ?_; (case F_18 => k_asm); (case N_18 => k_asm); (case hm_18 => k_extra "k_mem"); (case hz_18 => first | assumption | exact Nat.le_of_ble_eq_true rfl); k_whole); intro _ _ _ _ l1; (try k_lt l1); (try (revert l1; intro _)); (try k_sweep))
  k_with "o compareOp Eq ref ref" => (k_here; (with_reducible show wpAny _ _ (compareOp _ (Value.ref _) (Value.ref _)) _ _ _); k_dflt (refine' eq_tups_nil (by k_asm) ?ka_8 (by k_extra "k_mem") (by ktr_units) ?_; (case ka_8 => k_extra "k_mem")); (try simp only [reduceCtorEq, decide_false, decide_true, Bool.not_false, Bool.not_true]))
  k_with "o compareOp NotEq ref ref" => (k_here; (with_reducible show wpAny _ _ (compareOp _ (Value.ref _) (Value.ref _)) _ _ _); k_dflt (refine' ne_tups_nil (by k_asm) ?ka_9 (by k_extra "k_mem") (by ktr_units) ?_; (case ka_9 => k_extra "k_mem")); (try simp only [reduceCtorEq, decide_false, decide_true, Bool.not_false, Bool.not_true]))
  k_with "o subscriptTail" => (k_here; (with_reducible show wpAny _ _ (subscriptTail _ _ (Value.ref _) (Value.int 0 _)) _ _ _); k_dflt (refine item_ledT0 (News.isTup (by k_asm) (by k_extra "k_mem")) ?_))
  k_with "o subscriptTail" => (k_here; (with_reducible show wpAny _ _ (subscriptTail _ _ (Value.ref _) (Value.ref _)) _ _ _); k_dflt (refine' from_ledT1 ?F_10 ?N_10 ?ht_10 ?hz_10 ?_; (case F_10 => k_asm); (case N_10 => k_asm); (case ht_10 => k_extra "k_mem"); (case hz_10 => first | assumption | (simp only [List.length_map]; first | exact Nat.le_of_ble_eq_true rfl | omega))); intro _ _ _ _ l1; (try k_lt l1); (try (revert l1; intro _)); (try k_sweep))
  k_with "o binaryOp Add ref ref" => (k_here; (with_reducible show wpAny _ _ (binaryOp _ (Value.ref _) (Value.ref _)) _ _ _); k_dflt (refine' add_ledTm ?F_32 ?N_32 ?ht_32 ?hb_32 ?hz_32 ?_; (case F_32 => k_asm); (case N_32 => k_asm); (case ht_32 => k_extra "k_mem"); (case hb_32 => k_extra "k_mem"); (case hz_32 => (simp only [List.length_map, List.length_nil]; first | exact Nat.le_of_ble_eq_true rfl | omega))); intro _ _ _ _ _ _ _; (try k_sweep))
  k_with "o binaryOp Add ref ref" => (k_here; (with_reducible show wpAny _ _ (binaryOp _ (Value.ref _) (Value.ref _)) _ _ _); k_dflt (refine' add_ledT1 ?F_11 ?N_11 ?ht_11 ?hb_11 ?hz_11 ?_; (case F_11 => k_asm); (case N_11 => k_asm); (case ht_11 => k_extra "k_mem"); (case hb_11 => k_extra "k_mem"); (case hz_11 => (simp only [List.length_map, List.length_nil]; first | exact Nat.le_of_ble_eq_true rfl | omega))); intro _ _ _ _ l1; (try k_lt l1); (try (revert l1; intro _)); (try k_sweep))
  k_with "o binaryOp Add ref ref" => (k_here; (with_reducible show wpAny _ _ (binaryOp _ (Value.ref _) (Value.ref _)) _ _ _); k_dflt (refine' add_ledT0 ?F_12 ?N_12 ?ht_12 ?hb_12 ?hz_12 ?_; (case F_12 => k_asm); (case N_12 => k_asm); (case ht_12 => k_extra "k_mem"); (case hb_12 => k_extra "k_mem"); (case hz_12 => (simp only [List.length_map, List.length_nil]; first | exact Nat.le_of_ble_eq_true rfl | omega))))
  k_with "tbn_conj" => first | exact abv_nil | assumption | exact abv_one (by assumption) | (refine abv_next (by first | assumption | exact And.left (by assumption) | omega) ?_; k_extra "tbn_conj") | exact abv_oneA (by first | assumption | exact And.right (by assumption) | exact And.right (And.right (by assumption))) | (refine abv_all (by assumption) ?_; k_extra "tbn_conj") | (refine abv_allA (by first | assumption | exact And.right (by assumption) | exact And.right (And.right (by assumption))) ?_; k_extra "tbn_conj") | (refine abv_allS (by assumption) (by simp only [List.cons_append, List.append_assoc, List.nil_append]) ?_; k_extra "tbn_conj") | (refine abv_app ?_ ?_ <;> k_extra "tbn_conj")
  k_with "o mem9" => (with_reducible first | exact List.mem_cons_self | (refine List.mem_cons_of_mem _ ?_; k_extra "o mem9") | (refine List.mem_append_right _ ?_; k_extra "o mem9") | (refine List.mem_append_left _ ?_; k_extra "o mem9") | assumption)
  k_with "o subv" => (with_reducible first | exact sub_rfl | exact sub_le | (refine sub_tl ?_; k_extra "o subv") | (refine sub_ri ?_; k_extra "o subv") | (refine sub_lf ?_; k_extra "o subv"))
  k_with "o sub9" => first | k_extra "o subv" | exact sub_nil | ((with_reducible refine sub_cons ?_ ?_); (k_extra "o mem9"); k_extra "o sub9") | ((with_reducible refine sub_app ?_ ?_); k_extra "o sub9"; k_extra "o sub9")
  k_with "ktd_rel" => first | with_reducible assumption | ((with_reducible refine IsFrm.mono ?_ (by with_reducible assumption)); k_extra "o sub9") | ((with_reducible refine IsTag.mono ?_ (by with_reducible assumption)); k_extra "o sub9") | ((with_reducible refine TagsAt.mono ?_ (by with_reducible assumption)); k_extra "o sub9") | ((with_reducible refine RowsAt.mono ?_ (by with_reducible assumption)); k_extra "o sub9") | ((with_reducible refine' IsFrm.of ?q1_39 ?q2_39 ?q3_39); (case q1_39 => k_extra "k_mem"); (case q2_39 => k_extra "k_mem"); (case q3_39 => k_extra "k_mem")) | ((with_reducible refine' IsTag.of ?q1_39 ?q2_39); (case q1_39 => k_extra "k_mem"); (case q2_39 => k_extra "k_mem"))
  k_with "k_all" => first | (refine' allNe_of ?h1_67 ?h2_67; (case h1_67 => assumption); (case h2_67 => first | exact Nat.le_refl _ | exact Nat.le_succ _ | omega)) | (refine' allNe_ofA ?h1_67 ?h2_67; (case h1_67 => assumption); (case h2_67 => first | exact Nat.le_refl _ | exact Nat.le_succ _ | omega)) | (refine' allNe_ofA1 ?h1_67 ?h2_67; (case h1_67 => assumption); (case h2_67 => first | exact Nat.le_refl _ | exact Nat.le_succ _ | omega)) | (refine' allNe_ofA2 ?h1_67 ?h2_67; (case h1_67 => assumption); (case h2_67 => first | exact Nat.le_refl _ | exact Nat.le_succ _ | omega))
  k_with "k_enter" => (refine' codeTC ?k1_56 ?k2_56 ?k3_56 ?k4_56 ?k5_56 ?XB_56 ?TB_56 ?D_56 ?T0_56 ?kA_56 ?kF_56 ?kK_56 ?k6_56 ?k7_56 ?k8_56 ?k9_56 ?kB_56 ?kD_56 ?_ ?c2_56 ?c3_56 ?c4_56; (case kA_56 => exact rfl); (case kF_56 => exact rfl); (case kK_56 => first | exact rfl | assumption); (case k2_56 => assumption); (case k1_56 => assumption); (case XB_56 => assumption); (case TB_56 => assumption); (case D_56 => assumption); (case T0_56 => first | assumption | exact KtsTurn.refl); (case k3_56 => k_asm); (case k4_56 => k_asm); (case k5_56 => k_asm); (case k6_56 => k_is); (case k7_56 => k_is); (case k8_56 => k_room); (case k9_56 => first | exact BindsTo.of_eq rfl | exact binds_K (by k_in) rfl (by k_is) rfl rfl rfl | fail "k_enter: no rule for these arguments"); (case kB_56 => exact rfl); (case kD_56 => decide +kernel); (case c2_56 => exact rfl); (case c3_56 => exact rfl); (case c4_56 => exact rfl); k_whole; intro _ _ _ _ _ _ _ N' Y' B' _ _ l1 _; (try k_lt l1); k_cells Y'; (try simp only [List.cons_append, List.nil_append] at N'); (try dsimp only); (try k_lift B'); (try show wpAny _ _ _ _ _ _); (try k_fold))
  k_with "k_enter" => (refine' codeT ?k1_57 ?k2_57 ?k3_57 ?k4_57 ?k5_57 ?XB_57 ?TB_57 ?D_57 ?T0_57 ?kA_57 ?kF_57 ?kK_57 ?k6_57 ?k7_57 ?k8_57 ?k9_57 ?kB_57 ?_ ?c2_57 ?c3_57 ?c4_57 ?c5_57; (case kA_57 => exact rfl); (case kF_57 => exact rfl); (case kK_57 => first | exact rfl | assumption); (case k2_57 => assumption); (case k1_57 => assumption); (case XB_57 => assumption); (case TB_57 => assumption); (case D_57 => assumption); (case T0_57 => first | assumption | exact KtsTurn.refl); (case k3_57 => k_asm); (case k4_57 => k_asm); (case k5_57 => k_asm); (case k6_57 => k_is); (case k7_57 => k_is); (case k8_57 => k_room); (case k9_57 => first | exact BindsTo.of_eq rfl | exact binds_K (by k_in) rfl (by k_is) rfl rfl rfl | fail "k_enter: no rule for these arguments"); (case c5_57 => decide); (case kB_57 => exact locs rfl); (case c2_57 => exact rfl); (case c3_57 => exact rfl); (case c4_57 => exact rfl); k_whole; intro _ _ _ _ _ _ B' _ _ _; (try dsimp only); (try k_lift B'); (try show wpAny _ _ _ _ _ _); (try k_fold))
  k_with "o LeaveT" => (k_dflt (refine' leaveT_ ?F_58 ?N_58 ?T_58 ?_; (case F_58 => assumption); (case N_58 => assumption); (case T_58 => first | assumption | exact KtsTurn.refl); k_whole); intro _ _ _ _ kB _ _ _; (try k_lift kB); (try dsimp only))
  k_with "o eval ListComp" => (k_here; k_dflt (refine' ListComp_noneS ?F_68 ?B_68 ?XB_68 ?TB_68 ?T0_68 ?c1_68 ?c2_68 ?c3_68 ?c4_68 ?c5_68 ?_ ?c6_68; (case F_68 => k_asm); (case B_68 => assumption); (case XB_68 => assumption); (case TB_68 => assumption); (case T0_68 => first | assumption | exact KtsTurn.refl); (case c1_68 => exact rfl); (case c2_68 => decide); (case c3_68 => exact rfl); (case c4_68 => decide); (case c5_68 => exact rfl); (case c6_68 => exact fun _ => rfl)))
  k_with "o NoneSrc" => (k_here; k_dflt (refine' NoneSrc.of ?hh_69 ?F_69 ?N_69 ?hm_69 ?hz_69 ?G_69 ?_ ?_; (case hh_69 => first | exact rfl | assumption); (case F_69 => k_asm); (case N_69 => k_asm); (case hm_69 => k_extra "k_mem"); (case hz_69 => exact Nat.le_of_ble_eq_true rfl); (case G_69 => exact GPS.of (by assumption) (by assumption) (by assumption) (by assumption) (by first | assumption | exact KtsTurn.refl))); all_goals first | (intro i9 v9 g9 h9 I9 oI9 C9 oC9 D9 m9 tk9 E9 hi9 G9 hC9 hx9 F9 N9 off9; obtain ⟨T9, B9, X9, P9, K9⟩ := G9; (try dsimp only); rcases three_of hi9 with h99 | h99 | h99 <;> subst h99) | (intro D8 g8 h8 tk8 G8 F8 N8; obtain ⟨T8, B8, X8, P8, K8⟩ := G8; (try dsimp only)))
  k_with "o callWith ref" => (k_here; k_dflt (refine' callWith_K ?k1_70 ?k2_70 ?_; (case k1_70 => k_asm); (case k2_70 => k_is); k_whole))
  k_with "o compareOp NotEq ref ref" => (k_here; k_dflt (refine' ne_lists_nil ?N_71 ?ka_71 ?kb_71 ?ku_71 ?_; (case N_71 => k_asm); (case ka_71 => first | assumption | exact List.mem_cons_self | exact List.mem_cons_of_mem _ List.mem_cons_self | exact List.mem_cons_of_mem _ (List.mem_cons_of_mem _ List.mem_cons_self)); (case kb_71 => first | assumption | exact List.mem_cons_self | exact List.mem_cons_of_mem _ List.mem_cons_self); (case ku_71 => ktr_units)))
  k_with "o TestNo" => (k_here; k_dflt (refine' TestNo.of ?G_72 ?F_72 ?N_72; (case F_72 => k_asm); (case N_72 => k_asm); (case G_72 => exact GPS.of (by assumption) (by assumption) (by assumption) (by assumption) (by assumption))))
  k_with "o call ref" => (k_here; (with_reducible show wpAny _ _ (call (Value.ref 345) _) _ _ _); refine stop_of ?_)
  k_with "o call ref" => (k_here; (with_reducible show wpAny _ _ (call (Value.ref 345) _) _ _ _); k_dflt (refine' Ctr.use (outer_vlan0_ok _ _ _ _ ?kc_73) ?k1_73 ?k2_73 ?k3_73 ?k4_73 ?k5_73 ?kK_73 ?kd_73 ?ku_73 ?_; (case k1_73 => k_asm); (case k2_73 => k_asm); (case k3_73 => k_asm); (case k4_73 => k_asm); (case k5_73 => k_asm); (case kK_73 => first | exact rfl | assumption); (case kd_73 => ktr_room); (case ku_73 => ktr_units); (case kc_73 => k_extra "ktd_rel"); k_whole; intros; (try dsimp only); (try k_sweep); (try k_fold)))
  k_with "o call ref" => (k_here; (with_reducible show wpAny _ _ (call (Value.ref 352) _) _ _ _); refine stop_of ?_)
  k_with "o call ref" => (k_here; (with_reducible show wpAny _ _ (call (Value.ref 352) _) _ _ _); k_dflt (refine' Ctr.use (priority_of0_ok _ _ _ _ ?kc_74) ?k1_74 ?k2_74 ?k3_74 ?k4_74 ?k5_74 ?kK_74 ?kd_74 ?ku_74 ?_; (case k1_74 => k_asm); (case k2_74 => k_asm); (case k3_74 => k_asm); (case k4_74 => k_asm); (case k5_74 => k_asm); (case kK_74 => first | exact rfl | assumption); (case kd_74 => ktr_room); (case ku_74 => ktr_units); (case kc_74 => k_extra "ktd_rel"); k_whole; intros; (try dsimp only); (try k_sweep); (try k_fold)))
  k_with "o call ref" => (k_here; (with_reducible show wpAny _ _ (call (Value.ref 406) _) _ _ _); refine stop_of ?_)
  k_with "o call ref" => (k_here; (with_reducible show wpAny _ _ (call (Value.ref 406) _) _ _ _); k_dflt (refine' CtrS.use (refused_x _ _ _ 44 30 340 _ _ _ _ ?hq_75 ?hc_75 ?hC_75) ?k1_75 ?k2_75 ?k3_75 ?k4_75 ?k5_75 ?XB_75 ?TB_75 ?D_75 ?T0_75 ?H1_75 ?H2_75 ?kK_75 ?kd_75 ?ku_75 ?_; (case k2_75 => k_asm); (case k1_75 => assumption); (case k3_75 => k_asm); (case k4_75 => k_asm); (case k5_75 => k_asm); (case XB_75 => assumption); (case TB_75 => assumption); (case D_75 => assumption); (case T0_75 => first | assumption | exact KtsTurn.refl); (case H1_75 => assumption); (case H2_75 => assumption); (case kK_75 => first | exact rfl | assumption); (case kd_75 => ktr_room); (case ku_75 => ktr_units); (case hq_75 => k_extra "k_mem"); (case hC_75 => with_unfolding_all exact rfl); (case hc_75 => first | (refine' lam_popped _ _ _ _ _ _ _ _ _ _ _ _ _ _ _ _ _ ⟨0, 0, 0, 0⟩ _ ?h1_75 ?h2_75 ?hd_75 ?hv_75 ?h3_75 ?ho_75 ?hf_75; (case h1_75 => with_reducible k_extra "k_mem"); (case h2_75 => with_reducible k_extra "k_mem"); (case hd_75 => assumption); (case hv_75 => assumption); (case h3_75 => k_extra "k_mem"); (case ho_75 => assumption); (case hf_75 => k_extra "ktd_rel")) | (refine' lam_vlan _ _ _ _ _ _ _ _ _ _ _ _ _ _ _ _ _ _ _ _ _ _ _ ?h1_75 ?h2_75 ?hd_75 ?hv_75 ?h3_75 ?ho_75 ?h4_75 ?ho2_75 ?hf_75; (case h1_75 => with_reducible k_extra "k_mem"); (case h2_75 => with_reducible k_extra "k_mem"); (case hd_75 => assumption); (case hv_75 => assumption); (case h3_75 => k_extra "k_mem"); (case ho_75 => assumption); (case h4_75 => k_extra "k_mem"); (case ho2_75 => assumption); (case hf_75 => k_extra "ktd_rel")) | (refine' lam_priority _ _ _ _ _ _ _ _ _ _ _ _ _ _ _ _ _ _ _ _ _ _ _ ?h1_75 ?h2_75 ?hd_75 ?hv_75 ?h3_75 ?ho_75 ?h4_75 ?ho2_75 ?hf_75; (case h1_75 => with_reducible k_extra "k_mem"); (case h2_75 => with_reducible k_extra "k_mem"); (case hd_75 => assumption); (case hv_75 => assumption); (case h3_75 => k_extra "k_mem"); (case ho_75 => assumption); (case h4_75 => k_extra "k_mem"); (case ho2_75 => assumption); (case hf_75 => k_extra "ktd_rel"))); k_whole; intros; (try dsimp only); (try k_fold)))
  intro pr loose mean mg mb dp un gd cn cs ad ccd cl outer A₀ base h₀ g₀ L m s Q E B F X N T XB TB D T0 H1 H2 hk hd' hu hret
  obtain ⟨dx, tu0, a, b, c, d, e, hx, hdx, htu⟩ := hf
  have htu0 := htu
  simp only [List.map_nil] at htu
  k_steps
  all_goals
    refine' hret _ _ _ _ _ _ ?qa ?qu ?qv ?qw ?qc1 ?qc2 ?qc3 _ _ _ ?qt ?qf (news_pick ?qn ?qm ?qm1 ?qm2 ?qm3 ?qml) ?qb ?qx ?qp ?qd
    (case qf => assumption)
    (case qn => assumption)
    (case qm => with_reducible k_extra "k_mem")
    (case qm1 => with_reducible k_extra "k_mem")
    (case qm2 => with_reducible k_extra "k_mem")
    (case qm3 => with_reducible k_extra "k_mem")
    (case qml => (intro q9 hq9; with_reducible k_extra "k_mem"))
    (case qt => assumption)
    (case qb => assumption)
    (case qx => assumption)
    (case qp => assumption)
    (case qd => assumption)
    (case qc1 => exact CodeObj.of (by assumption) (by assumption))
    (case qc2 => exact CodeObj.of (by assumption) (by assumption))
    (case qc3 => exact CodeObj.of (by assumption) (by assumption))
    (case qu => omega)
    (case qv => omega)
    (case qw => omega)
    (case qa => exact allLt_all (And.right (And.right (And.right (And.right (by assumption))))))
end
end
section
open PySem PySem.W PyProof.Rows PySem.Calls PySem.Spec
set_option maxRecDepth 100000
set_option maxHeartbeats 1600000
theorem news_subX {h₀ h : Heap} {L : Addr} {l r : Led} (N : News h₀ L h r) (ml : ∀ q ∈ l, q ∈ r) : News h₀ L h l := fun q hq => N q (ml q hq)
section
theorem bare_hit (w : World) (news : Led) (x : Addr) (f : FrameV) (hf : IsFrm w news x f []) (v p : Int) (tv tp : Tok) (c1 c2 c3 : Addr) (o1 o2 o3 : Obj) (ht : (408, bareTab c1 c2 c3) ∈ news) (hc1 : (c1, o1) ∈ news) (hc2 : (c2, o2) ∈ news) (hc3 : (c3, o3) ∈ news) (hk1 : CodeObj bareQ o1) (hk2 : CodeObj bareQ o2) (hk3 : CodeObj bareQ o3) :
    CtrS w 411 60 600 [.ref x, .int v tv, .int p tp] news (fun R => R news (.bool true)) := by
  k_with_none
  w_top off
  k_with "k_mem" => first | assumption | exact List.mem_cons_self | (refine List.mem_cons_of_mem _ ?_; k_extra "k_mem") | (refine List.mem_append_right _ ?_; k_extra "k_mem") | (refine List.mem_append_left _ ?_; k_extra "k_mem")
  k_with "k_all" => assumption
  k_with "ktr_room" => ((try simp only [depth_under_make, depth_under_kw, depth_in1, depth_deeper, depth_caller]); (try dsimp only [ktrTop]); first | exact room0 (by with_reducible assumption) | exact room1 (by with_reducible assumption) rfl | exact room2 (by with_reducible assumption) rfl | exact room3 (by with_reducible assumption) rfl | exact Nat.le_of_ble_eq_true rfl | lia | omega)
  k_with "k_room" => ktr_room
  k_with "ktr_units" => ((try simp only [units_in1, units_deeper, Around.mark_units, units_caller]); (try dsimp only [ktrTop]); first | exact room0 (by with_reducible assumption) | exact room1 (by with_reducible assumption) rfl | exact room2 (by with_reducible assumption) rfl | exact room3 (by with_reducible assumption) rfl | exact Nat.le_of_ble_eq_true rfl | ((have hcL9 := cLine_is); (first | lia | omega)))
  k_with "k_enter" => (refine' code_defC ?k1_20 ?k2_20 ?k3_20 ?k4_20 ?k5_20 ?kA_20 ?kF_20 ?kK_20 ?k6_20 ?k7_20 ?k8_20 ?k9_20 ?kB_20 ?kD_20 ?_ ?c2_20 ?c3_20 ?c4_20; (case kA_20 => exact rfl); (case kF_20 => exact rfl); (case kK_20 => first | exact rfl | assumption); (case k1_20 => k_asm); (case k2_20 => k_asm); (case k3_20 => k_asm); (case k4_20 => k_asm); (case k5_20 => k_asm); (case k6_20 => k_is); (case k7_20 => k_is); (case k8_20 => k_room); (case k9_20 => first | exact BindsTo.of_eq rfl | exact binds_K (by k_in) rfl (by k_is) rfl rfl rfl | fail "k_enter: no rule for these arguments"); (case kB_20 => exact rfl); (case kD_20 => decide +kernel); (case c2_20 => exact rfl); (case c3_20 => exact rfl); (case c4_20 => exact rfl); k_whole; intro _ _ _ _ _ _ _ N' Y' B' _ _ l1; (try k_lt l1); k_cells Y'; (try simp only [List.cons_append, List.nil_append] at N'); (try dsimp only); (try k_lift B'); (try k_fold))
  k_with "k_enter" => (refine' code_def ?k1_0 ?k2_0 ?k3_0 ?k4_0 ?k5_0 ?kA_0 ?kF_0 ?kK_0 ?k6_0 ?k7_0 ?k8_0 ?k9_0 ?kB_0 ?_ ?c2_0 ?c3_0 ?c4_0 ?c5_0; (case kA_0 => exact rfl); (case kF_0 => exact rfl); (case kK_0 => first | exact rfl | assumption); (case k1_0 => k_asm); (case k2_0 => k_asm); (case k3_0 => k_asm); (case k4_0 => k_asm); (case k5_0 => k_asm); (case k6_0 => k_is); (case k7_0 => k_is); (case k8_0 => k_room); (case k9_0 => first | exact BindsTo.of_eq rfl | exact binds_K (by k_in) rfl (by k_is) rfl rfl rfl | fail "k_enter: no rule for these arguments"); (case c5_0 => decide); (case kB_0 => exact locs rfl); (case c2_0 => exact rfl); (case c3_0 => exact rfl); (case c4_0 => exact rfl); k_whole; intro _ _ _ _ _ _ B' _ _; (try dsimp only); (try k_lift B'); (try k_fold))
  k_with "o call type:tuple" => (k_here; (with_reducible show wpAny _ _ (call (Value.type _) [Value.ref _]) _ _ _); k_dflt (refine call_tuple_tup (News.isTup (by k_asm) (by k_extra "k_mem")) ?_))
  k_with "o call type:bytes" => (k_here; (with_reducible show wpAny _ _ (call (Value.type _) [Value.bytes _ _]) _ _ _); refine call_bytes_same ?_)
  k_with "o call type:tuple" => (k_here; (with_reducible show wpAny _ _ (call (Value.type _) [Value.ref _]) _ _ _); k_dflt (refine' tupleOf_ys ?F_18 ?N_18 ?hm_18 ?hz_18 ?_; (case F_18 => k_asm); (case N_18 => k_asm); (case hm_18 => k_extra "k_mem"); (case hz_18 => first | assumption | exact Nat.le_of_ble_eq_true rfl); k_whole); intro _ _ _ _ l1; (try k_lt l1); (try (revert l1; intro _)); (try k_sweep))
  k_with "o compareOp Eq ref ref" => (k_here; (with_reducible show wpAny _ _ (compareOp _ (Value.ref _) (Value.ref _)) _ _ _); k_dflt (refine' eq_tups_nil (by k_asm) ?ka_8 (by k_extra "k_mem") (by ktr_units) ?_; (case ka_8 => k_extra "k_mem")); (try simp only [reduceCtorEq, decide_false, decide_true, Bool.not_false, Bool.not_true]))
  k_with "o compareOp NotEq ref ref" => (k_here; (with_reducible show wpAny _ _ (compareOp _ (Value.ref _) (Value.ref _)) _ _ _); k_dflt (refine' ne_tups_nil (by k_asm) ?ka_9 (by k_extra "k_mem") (by ktr_units) ?_; (case ka_9 => k_extra "k_mem")); (try simp only [reduceCtorEq, decide_false, decide_true, Bool.not_false, Bool.not_true]))
  k_with "o subscriptTail" => (k_here; (with_reducible show wpAny _ _ (subscriptTail _ _ (Value.ref _) (Value.int 0 _)) _ _ _); k_dflt (refine item_ledT0 (News.isTup (by k_asm) (by k_extra "k_mem")) ?_))
  k_with "o subscriptTail" => (k_here; (with_reducible show wpAny _ _ (subscriptTail _ _ (Value.ref _) (Value.ref _)) _ _ _); k_dflt (refine' from_ledT1 ?F_13 ?N_13 ?ht_13 ?hz_13 ?_; (case F_13 => k_asm); (case N_13 => k_asm); (case ht_13 => k_extra "k_mem"); (case hz_13 => first | assumption | (simp only [List.length_map]; first | exact Nat.le_of_ble_eq_true rfl | lia | omega))); intro _ _ _ _ l1; (try k_lt l1); (try (revert l1; intro _)); (try k_sweep))
  k_with "o binaryOp Add ref ref" => (k_here; (with_reducible show wpAny _ _ (binaryOp _ (Value.ref _) (Value.ref _)) _ _ _); k_dflt (refine' add_ledTm ?F_14 ?N_14 ?ht_14 ?hb_14 ?hz_14 ?_; (case F_14 => k_asm); (case N_14 => k_asm); (case ht_14 => k_extra "k_mem"); (case hb_14 => k_extra "k_mem"); (case hz_14 => (simp only [List.length_map, List.length_nil]; first | exact Nat.le_of_ble_eq_true rfl | lia | omega))); intro _ _ _ _ _ _ _; (try k_sweep))
  k_with "o binaryOp Add ref ref" => (k_here; (with_reducible show wpAny _ _ (binaryOp _ (Value.ref _) (Value.ref _)) _ _ _); k_dflt (refine' add_ledT1 ?F_15 ?N_15 ?ht_15 ?hb_15 ?hz_15 ?_; (case F_15 => k_asm); (case N_15 => k_asm); (case ht_15 => k_extra "k_mem"); (case hb_15 => k_extra "k_mem"); (case hz_15 => (simp only [List.length_map, List.length_nil]; first | exact Nat.le_of_ble_eq_true rfl | lia | omega))); intro _ _ _ _ l1; (try k_lt l1); (try (revert l1; intro _)); (try k_sweep))
  k_with "o binaryOp Add ref ref" => (k_here; (with_reducible show wpAny _ _ (binaryOp _ (Value.ref _) (Value.ref _)) _ _ _); k_dflt (refine' add_ledT0 ?F_16 ?N_16 ?ht_16 ?hb_16 ?hz_16 ?_; (case F_16 => k_asm); (case N_16 => k_asm); (case ht_16 => k_extra "k_mem"); (case hb_16 => k_extra "k_mem"); (case hz_16 => (simp only [List.length_map, List.length_nil]; first | exact Nat.le_of_ble_eq_true rfl | lia | omega))))
  k_with "tbn_conj" => first | exact abv_nil | assumption | exact abv_one (by assumption) | (refine abv_next (by first | assumption | exact And.left (by assumption) | lia | omega) ?_; k_extra "tbn_conj") | exact abv_oneA (by first | assumption | exact And.right (by assumption) | exact And.right (And.right (by assumption))) | (refine abv_all (by assumption) ?_; k_extra "tbn_conj") | (refine abv_allA (by first | assumption | exact And.right (by assumption) | exact And.right (And.right (by assumption))) ?_; k_extra "tbn_conj") | (refine abv_allS (by assumption) (by simp only [List.cons_append, List.append_assoc, List.nil_append]) ?_; k_extra "tbn_conj") | (refine abv_app ?_ ?_ <;> k_extra "tbn_conj")
  k_with "o mem9" => (with_reducible first | exact List.mem_cons_self | (refine List.mem_cons_of_mem _ ?_; k_extra "o mem9") | (refine List.mem_append_right _ ?_; k_extra "o mem9") | (refine List.mem_append_left _ ?_; k_extra "o mem9") | assumption)
  k_with "o subv" => (with_reducible first | exact sub_rfl | exact sub_le | (refine sub_tl ?_; k_extra "o subv") | (refine sub_ri ?_; k_extra "o subv") | (refine sub_lf ?_; k_extra "o subv"))
  k_with "o sub9" => first | k_extra "o subv" | exact sub_nil | ((with_reducible refine sub_cons ?_ ?_); (k_extra "o mem9"); k_extra "o sub9") | ((with_reducible refine sub_app ?_ ?_); k_extra "o sub9"; k_extra "o sub9")
  k_with "ktd_rel" => first | with_reducible assumption | ((with_reducible refine IsFrm.mono ?_ (by with_reducible assumption)); k_extra "o sub9") | ((with_reducible refine IsTag.mono ?_ (by with_reducible assumption)); k_extra "o sub9") | ((with_reducible refine TagsAt.mono ?_ (by with_reducible assumption)); k_extra "o sub9") | ((with_reducible refine RowsAt.mono ?_ (by with_reducible assumption)); k_extra "o sub9") | ((with_reducible refine' IsFrm.of ?q1_39 ?q2_39 ?q3_39); (case q1_39 => k_extra "k_mem"); (case q2_39 => k_extra "k_mem"); (case q3_39 => k_extra "k_mem")) | ((with_reducible refine' IsTag.of ?q1_39 ?q2_39); (case q1_39 => k_extra "k_mem"); (case q2_39 => k_extra "k_mem"))
  k_with "k_all" => first | (refine' allNe_of ?h1_45 ?h2_45; (case h1_45 => assumption); (case h2_45 => first | exact Nat.le_refl _ | exact Nat.le_succ _ | lia | omega)) | (refine' allNe_ofA ?h1_45 ?h2_45; (case h1_45 => assumption); (case h2_45 => first | exact Nat.le_refl _ | exact Nat.le_succ _ | lia | omega)) | (refine' allNe_ofA1 ?h1_45 ?h2_45; (case h1_45 => assumption); (case h2_45 => first | exact Nat.le_refl _ | exact Nat.le_succ _ | lia | omega)) | (refine' allNe_ofA2 ?h1_45 ?h2_45; (case h1_45 => assumption); (case h2_45 => first | exact Nat.le_refl _ | exact Nat.le_succ _ | lia | omega))
  k_with "k_enter" => (refine' codeTC ?k1_56 ?k2_56 ?k3_56 ?k4_56 ?k5_56 ?XB_56 ?TB_56 ?D_56 ?T0_56 ?kA_56 ?kF_56 ?kK_56 ?k6_56 ?k7_56 ?k8_56 ?k9_56 ?kB_56 ?kD_56 ?_ ?c2_56 ?c3_56 ?c4_56; (case kA_56 => exact rfl); (case kF_56 => exact rfl); (case kK_56 => first | exact rfl | assumption); (case k2_56 => assumption); (case k1_56 => assumption); (case XB_56 => assumption); (case TB_56 => assumption); (case D_56 => assumption); (case T0_56 => first | assumption | exact KtsTurn.refl); (case k3_56 => k_asm); (case k4_56 => k_asm); (case k5_56 => k_asm); (case k6_56 => k_is); (case k7_56 => k_is); (case k8_56 => k_room); (case k9_56 => first | exact BindsTo.of_eq rfl | exact binds_K (by k_in) rfl (by k_is) rfl rfl rfl | fail "k_enter: no rule for these arguments"); (case kB_56 => exact rfl); (case kD_56 => decide +kernel); (case c2_56 => exact rfl); (case c3_56 => exact rfl); (case c4_56 => exact rfl); k_whole; intro _ _ _ _ _ _ _ N' Y' B' _ _ l1 _; (try k_lt l1); k_cells Y'; (try simp only [List.cons_append, List.nil_append] at N'); (try dsimp only); (try k_lift B'); (try show wpAny _ _ _ _ _ _); (try k_fold))
  k_with "k_enter" => (refine' codeT ?k1_57 ?k2_57 ?k3_57 ?k4_57 ?k5_57 ?XB_57 ?TB_57 ?D_57 ?T0_57 ?kA_57 ?kF_57 ?kK_57 ?k6_57 ?k7_57 ?k8_57 ?k9_57 ?kB_57 ?_ ?c2_57 ?c3_57 ?c4_57 ?c5_57; (case kA_57 => exact rfl); (case kF_57 => exact rfl); (case kK_57 => first | exact rfl | assumption); (case k2_57 => assumption); (case k1_57 => assumption); (case XB_57 => assumption); (case TB_57 => assumption); (case D_57 => assumption); (case T0_57 => first | assumption | exact KtsTurn.refl); (case k3_57 => k_asm); (case k4_57 => k_asm); (case k5_57 => k_asm); (case k6_57 => k_is); (case k7_57 => k_is); (case k8_57 => k_room); (case k9_57 => first | exact BindsTo.of_eq rfl | exact binds_K (by k_in) rfl (by k_is) rfl rfl rfl | fail "k_enter: no rule for these arguments"); (case c5_57 => decide); (case kB_57 => exact locs rfl); (case c2_57 => exact rfl); (case c3_57 => exact rfl); (case c4_57 => exact rfl); k_whole; intro _ _ _ _ _ _ B' _ _ _; (try dsimp only); (try k_lift B'); (try show wpAny _ _ _ _ _ _); (try k_fold))
  k_with "o LeaveT" => (k_dflt (refine' leaveT_ ?F_58 ?N_58 ?T_58 ?_; (case F_58 => assumption); (case N_58 => assumption); (case T_58 => first | assumption | exact KtsTurn.refl); k_whole); intro _ _ _ _ kB _ _ _; (try k_lift kB); (try dsimp only))
  k_with "o eval ListComp" => (k_here; k_dflt (refine' ListComp_noneS ?F_68 ?B_68 ?XB_68 ?TB_68 ?T0_68 ?c1_68 ?c2_68 ?c3_68 ?c4_68 ?c5_68 ?_ ?c6_68; (case F_68 => k_asm); (case B_68 => assumption); (case XB_68 => assumption); (case TB_68 => assumption); (case T0_68 => first | assumption | exact KtsTurn.refl); (case c1_68 => exact rfl); (case c2_68 => decide); (case c3_68 => exact rfl); (case c4_68 => decide); (case c5_68 => exact rfl); (case c6_68 => exact fun _ => rfl)))
  k_with "o NoneSrc" => (k_here; k_dflt (refine' NoneSrc.of ?hh_69 ?F_69 ?N_69 ?hm_69 ?hz_69 ?G_69 ?_ ?_; (case hh_69 => first | exact rfl | assumption); (case F_69 => k_asm); (case N_69 => k_asm); (case hm_69 => k_extra "k_mem"); (case hz_69 => exact Nat.le_of_ble_eq_true rfl); (case G_69 => exact GPS.of (by assumption) (by assumption) (by assumption) (by assumption) (by first | assumption | exact KtsTurn.refl))); all_goals first | (intro i9 v9 g9 h9 I9 oI9 C9 oC9 D9 m9 tk9 E9 hi9 G9 hC9 hx9 F9 N9 off9; obtain ⟨T9, B9, X9, P9, K9⟩ := G9; (try dsimp only); rcases three_of hi9 with h99 | h99 | h99 <;> subst h99) | (intro D8 g8 h8 tk8 G8 F8 N8; obtain ⟨T8, B8, X8, P8, K8⟩ := G8; (try dsimp only)))
  k_with "o callWith ref" => (k_here; k_dflt (refine' callWith_K ?k1_70 ?k2_70 ?_; (case k1_70 => k_asm); (case k2_70 => k_is); k_whole))
  k_with "o compareOp NotEq ref ref" => (k_here; k_dflt (refine' ne_lists_nil ?N_71 ?ka_71 ?kb_71 ?ku_71 ?_; (case N_71 => k_asm); (case ka_71 => first | assumption | exact List.mem_cons_self | exact List.mem_cons_of_mem _ List.mem_cons_self | exact List.mem_cons_of_mem _ (List.mem_cons_of_mem _ List.mem_cons_self)); (case kb_71 => first | assumption | exact List.mem_cons_self | exact List.mem_cons_of_mem _ List.mem_cons_self); (case ku_71 => ktr_units)))
  k_with "o TestNo" => (k_here; k_dflt (refine' TestNo.of ?G_72 ?F_72 ?N_72; (case F_72 => k_asm); (case N_72 => k_asm); (case G_72 => exact GPS.of (by assumption) (by assumption) (by assumption) (by assumption) (by assumption))))
  k_with "o call ref" => (k_here; (with_reducible show wpAny _ _ (call (Value.ref 345) _) _ _ _); refine stop_of ?_)
  k_with "o call ref" => (k_here; (with_reducible show wpAny _ _ (call (Value.ref 345) _) _ _ _); k_dflt (refine' Ctr.use (outer_vlan0_ok _ _ _ _ ?kc_73) ?k1_73 ?k2_73 ?k3_73 ?k4_73 ?k5_73 ?kK_73 ?kd_73 ?ku_73 ?_; (case k1_73 => k_asm); (case k2_73 => k_asm); (case k3_73 => k_asm); (case k4_73 => k_asm); (case k5_73 => k_asm); (case kK_73 => first | exact rfl | assumption); (case kd_73 => ktr_room); (case ku_73 => ktr_units); (case kc_73 => k_extra "ktd_rel"); k_whole; intros; (try dsimp only); (try k_sweep); (try k_fold)))
  k_with "o call ref" => (k_here; (with_reducible show wpAny _ _ (call (Value.ref 352) _) _ _ _); refine stop_of ?_)
  k_with "o call ref" => (k_here; (with_reducible show wpAny _ _ (call (Value.ref 352) _) _ _ _); k_dflt (refine' Ctr.use (priority_of0_ok _ _ _ _ ?kc_74) ?k1_74 ?k2_74 ?k3_74 ?k4_74 ?k5_74 ?kK_74 ?kd_74 ?ku_74 ?_; (case k1_74 => k_asm); (case k2_74 => k_asm); (case k3_74 => k_asm); (case k4_74 => k_asm); (case k5_74 => k_asm); (case kK_74 => first | exact rfl | assumption); (case kd_74 => ktr_room); (case ku_74 => ktr_units); (case kc_74 => k_extra "ktd_rel"); k_whole; intros; (try dsimp only); (try k_sweep); (try k_fold)))
  k_with "o call ref" => (k_here; (with_reducible show wpAny _ _ (call (Value.ref 406) _) _ _ _); refine stop_of ?_)
  k_with "o call ref" => (k_here; (with_reducible show wpAny _ _ (call (Value.ref 406) _) _ _ _); k_dflt (refine' CtrS.use (refused_x _ _ _ 44 30 340 _ _ _ _ ?hq_75 ?hc_75 ?hC_75) ?k1_75 ?k2_75 ?k3_75 ?k4_75 ?k5_75 ?XB_75 ?TB_75 ?D_75 ?T0_75 ?H1_75 ?H2_75 ?kK_75 ?kd_75 ?ku_75 ?_; (case k2_75 => k_asm); (case k1_75 => assumption); (case k3_75 => k_asm); (case k4_75 => k_asm); (case k5_75 => k_asm); (case XB_75 => assumption); (case TB_75 => assumption); (case D_75 => assumption); (case T0_75 => first | assumption | exact KtsTurn.refl); (case H1_75 => assumption); (case H2_75 => assumption); (case kK_75 => first | exact rfl | assumption); (case kd_75 => ktr_room); (case ku_75 => ktr_units); (case hq_75 => k_extra "k_mem"); (case hC_75 => with_unfolding_all exact rfl); (case hc_75 => first | (refine' lam_popped _ _ _ _ _ _ _ _ _ _ _ _ _ _ _ _ _ ⟨0, 0, 0, 0⟩ _ ?h1_75 ?h2_75 ?hd_75 ?hv_75 ?h3_75 ?ho_75 ?hf_75; (case h1_75 => with_reducible k_extra "k_mem"); (case h2_75 => with_reducible k_extra "k_mem"); (case hd_75 => assumption); (case hv_75 => assumption); (case h3_75 => k_extra "k_mem"); (case ho_75 => assumption); (case hf_75 => k_extra "ktd_rel")) | (refine' lam_vlan _ _ _ _ _ _ _ _ _ _ _ _ _ _ _ _ _ _ _ _ _ _ _ ?h1_75 ?h2_75 ?hd_75 ?hv_75 ?h3_75 ?ho_75 ?h4_75 ?ho2_75 ?hf_75; (case h1_75 => with_reducible k_extra "k_mem"); (case h2_75 => with_reducible k_extra "k_mem"); (case hd_75 => assumption); (case hv_75 => assumption); (case h3_75 => k_extra "k_mem"); (case ho_75 => assumption); (case h4_75 => k_extra "k_mem"); (case ho2_75 => assumption); (case hf_75 => k_extra "ktd_rel")) | (refine' lam_priority _ _ _ _ _ _ _ _ _ _ _ _ _ _ _ _ _ _ _ _ _ _ _ ?h1_75 ?h2_75 ?hd_75 ?hv_75 ?h3_75 ?ho_75 ?h4_75 ?ho2_75 ?hf_75; (case h1_75 => with_reducible k_extra "k_mem"); (case h2_75 => with_reducible k_extra "k_mem"); (case hd_75 => assumption); (case hv_75 => assumption); (case h3_75 => k_extra "k_mem"); (case ho_75 => assumption); (case h4_75 => k_extra "k_mem"); (case ho2_75 => assumption); (case hf_75 => k_extra "ktd_rel"))); k_whole; intros; (try dsimp only); (try k_fold)))
  intro pr loose mean mg mb dp un gd cn cs ad ccd cl outer A₀ base h₀ g₀ L m s Q E B F X N T XB TB D T0 H1 H2 hk hd' hu hret
  obtain ⟨dx, tu0, a, b, c, d, e, hx, hdx, htu⟩ := hf
  have htu0 := htu
  simp only [List.map_nil] at htu
  obtain ⟨vs1, t1, hd1, hv1⟩ := hk1
  obtain ⟨vs2, t2, hd2, hv2⟩ := hk2
  obtain ⟨vs3, t3, hd3, hv3⟩ := hk3
  k_steps
  all_goals
    refine' hret _ _ _ ?qt ?qf (news_subX ?qn ?qml) ?qb ?qx ?qp ?qd
    (case qf => assumption)
    (case qn => assumption)
    (case qml => (intro q9 hq9; with_reducible k_extra "k_mem"))
    (case qt => assumption)
    (case qb => assumption)
    (case qx => assumption)
    (case qp => assumption)
    (case qd => assumption)
end
end
section
open PySem PySem.W PyProof.Rows PySem.Calls PySem.Spec
set_option maxRecDepth 100000
set_option maxHeartbeats 8000000
theorem TagsAt.cons_ {w : World} {news : Led} {x : Addr} {xs : List Addr} {t : TagV} {ts : List TagV} (h : IsTag w news x t) (k : TagsAt w news xs ts) : TagsAt w news (x :: xs) (t :: ts) := ⟨h, k⟩
section
theorem told_right_ok (w : World) (news : Led) (r x : Addr) (k : Nat) (f : FrameV) (x0 y0 : Addr) (xr ys : List Addr) (t : TagV) (ts : List TagV) (hf : IsFrm w news x f (x0 :: xr)) (ht : TagsAt w news (x0 :: xr) (t :: ts)) (hr : (r, ({ cls := .type "list", data := .seq (.ref y0 :: ys.map .ref).toArray k } : Obj)) ∈ news) (hy : RowsAt news (y0 :: ys) (t :: ts)) (hn : ts.length ≤ 3) (v p : Int) (tv tp : Tok) :
    Ctr w 418 20 200 [.ref r, .ref x, .int v tv, .int p tp] news (fun R => R news (.bool true)) := by
  k_with_none
  w_top off
  k_with "k_mem" => first | assumption | exact List.mem_cons_self | (refine List.mem_cons_of_mem _ ?_; k_extra "k_mem") | (refine List.mem_append_right _ ?_; k_extra "k_mem") | (refine List.mem_append_left _ ?_; k_extra "k_mem")
  k_with "k_all" => assumption
  k_with "ktr_room" => ((try simp only [depth_under_make, depth_under_kw, depth_in1, depth_deeper, depth_caller]); (try dsimp only [ktrTop]); first | exact room0 (by with_reducible assumption) | exact room1 (by with_reducible assumption) rfl | exact room2 (by with_reducible assumption) rfl | exact room3 (by with_reducible assumption) rfl | exact Nat.le_of_ble_eq_true rfl | lia | omega)
  k_with "k_room" => ktr_room
  k_with "ktr_units" => ((try simp only [units_in1, units_deeper, Around.mark_units, units_caller]); (try dsimp only [ktrTop]); first | exact room0 (by with_reducible assumption) | exact room1 (by with_reducible assumption) rfl | exact room2 (by with_reducible assumption) rfl | exact room3 (by with_reducible assumption) rfl | exact Nat.le_of_ble_eq_true rfl | ((have hcL9 := cLine_is); (first | lia | omega)))
  k_with "k_enter" => (refine' code_defC ?k1_20 ?k2_20 ?k3_20 ?k4_20 ?k5_20 ?kA_20 ?kF_20 ?kK_20 ?k6_20 ?k7_20 ?k8_20 ?k9_20 ?kB_20 ?kD_20 ?_ ?c2_20 ?c3_20 ?c4_20; (case kA_20 => exact rfl); (case kF_20 => exact rfl); (case kK_20 => first | exact rfl | assumption); (case k1_20 => k_asm); (case k2_20 => k_asm); (case k3_20 => k_asm); (case k4_20 => k_asm); (case k5_20 => k_asm); (case k6_20 => k_is); (case k7_20 => k_is); (case k8_20 => k_room); (case k9_20 => first | exact BindsTo.of_eq rfl | exact binds_K (by k_in) rfl (by k_is) rfl rfl rfl | fail "k_enter: no rule for these arguments"); (case kB_20 => exact rfl); (case kD_20 => decide +kernel); (case c2_20 => exact rfl); (case c3_20 => exact rfl); (case c4_20 => exact rfl); k_whole; intro _ _ _ _ _ _ _ N' Y' B' _ _ l1; (try k_lt l1); k_cells Y'; (try simp only [List.cons_append, List.nil_append] at N'); (try dsimp only); (try k_lift B'); (try k_fold))
  k_with "k_enter" => (refine' code_def ?k1_0 ?k2_0 ?k3_0 ?k4_0 ?k5_0 ?kA_0 ?kF_0 ?kK_0 ?k6_0 ?k7_0 ?k8_0 ?k9_0 ?kB_0 ?_ ?c2_0 ?c3_0 ?c4_0 ?c5_0; (case kA_0 => exact rfl); (case kF_0 => exact rfl); (case kK_0 => first | exact rfl | assumption); (case k1_0 => k_asm); (case k2_0 => k_asm); (case k3_0 => k_asm); (case k4_0 => k_asm); (case k5_0 => k_asm); (case k6_0 => k_is); (case k7_0 => k_is); (case k8_0 => k_room); (case k9_0 => first | exact BindsTo.of_eq rfl | exact binds_K (by k_in) rfl (by k_is) rfl rfl rfl | fail "k_enter: no rule for these arguments"); (case c5_0 => decide); (case kB_0 => exact locs rfl); (case c2_0 => exact rfl); (case c3_0 => exact rfl); (case c4_0 => exact rfl); k_whole; intro _ _ _ _ _ _ B' _ _; (try dsimp only); (try k_lift B'); (try k_fold))
  k_with "o call type:tuple" => (k_here; (with_reducible show wpAny _ _ (call (Value.type _) [Value.ref _]) _ _ _); k_dflt (refine call_tuple_tup (News.isTup (by k_asm) (by k_extra "k_mem")) ?_))
  k_with "o call type:bytes" => (k_here; (with_reducible show wpAny _ _ (call (Value.type _) [Value.bytes _ _]) _ _ _); refine call_bytes_same ?_)
  k_with "o call type:tuple" => (k_here; (with_reducible show wpAny _ _ (call (Value.type _) [Value.ref _]) _ _ _); k_dflt (refine' tupleOf_ys ?F_18 ?N_18 ?hm_18 ?hz_18 ?_; (case F_18 => k_asm); (case N_18 => k_asm); (case hm_18 => k_extra "k_mem"); (case hz_18 => first | assumption | exact Nat.le_of_ble_eq_true rfl); k_whole); intro _ _ _ _ l1; (try k_lt l1); (try (revert l1; intro _)); (try k_sweep))
  k_with "o compareOp Eq ref ref" => (k_here; (with_reducible show wpAny _ _ (compareOp _ (Value.ref _) (Value.ref _)) _ _ _); k_dflt (refine' eq_tups_nil (by k_asm) ?ka_8 (by k_extra "k_mem") (by ktr_units) ?_; (case ka_8 => k_extra "k_mem")); (try simp only [reduceCtorEq, decide_false, decide_true, Bool.not_false, Bool.not_true]))
  k_with "o compareOp NotEq ref ref" => (k_here; (with_reducible show wpAny _ _ (compareOp _ (Value.ref _) (Value.ref _)) _ _ _); k_dflt (refine' ne_tups_nil (by k_asm) ?ka_9 (by k_extra "k_mem") (by ktr_units) ?_; (case ka_9 => k_extra "k_mem")); (try simp only [reduceCtorEq, decide_false, decide_true, Bool.not_false, Bool.not_true]))
  k_with "o subscriptTail" => (k_here; (with_reducible show wpAny _ _ (subscriptTail _ _ (Value.ref _) (Value.int 0 _)) _ _ _); k_dflt (refine item_ledT0 (News.isTup (by k_asm) (by k_extra "k_mem")) ?_))
  k_with "o subscriptTail" => (k_here; (with_reducible show wpAny _ _ (subscriptTail _ _ (Value.ref _) (Value.ref _)) _ _ _); k_dflt (refine' from_ledT1 ?F_13 ?N_13 ?ht_13 ?hz_13 ?_; (case F_13 => k_asm); (case N_13 => k_asm); (case ht_13 => k_extra "k_mem"); (case hz_13 => first | assumption | (simp only [List.length_map]; first | exact Nat.le_of_ble_eq_true rfl | lia | omega))); intro _ _ _ _ l1; (try k_lt l1); (try (revert l1; intro _)); (try k_sweep))
  k_with "o binaryOp Add ref ref" => (k_here; (with_reducible show wpAny _ _ (binaryOp _ (Value.ref _) (Value.ref _)) _ _ _); k_dflt (refine' add_ledTm ?F_14 ?N_14 ?ht_14 ?hb_14 ?hz_14 ?_; (case F_14 => k_asm); (case N_14 => k_asm); (case ht_14 => k_extra "k_mem"); (case hb_14 => k_extra "k_mem"); (case hz_14 => (simp only [List.length_map, List.length_nil]; first | exact Nat.le_of_ble_eq_true rfl | lia | omega))); intro _ _ _ _ _ _ _; (try k_sweep))
  k_with "o binaryOp Add ref ref" => (k_here; (with_reducible show wpAny _ _ (binaryOp _ (Value.ref _) (Value.ref _)) _ _ _); k_dflt (refine' add_ledT1 ?F_15 ?N_15 ?ht_15 ?hb_15 ?hz_15 ?_; (case F_15 => k_asm); (case N_15 => k_asm); (case ht_15 => k_extra "k_mem"); (case hb_15 => k_extra "k_mem"); (case hz_15 => (simp only [List.length_map, List.length_nil]; first | exact Nat.le_of_ble_eq_true rfl | lia | omega))); intro _ _ _ _ l1; (try k_lt l1); (try (revert l1; intro _)); (try k_sweep))
  k_with "o binaryOp Add ref ref" => (k_here; (with_reducible show wpAny _ _ (binaryOp _ (Value.ref _) (Value.ref _)) _ _ _); k_dflt (refine' add_ledT0 ?F_16 ?N_16 ?ht_16 ?hb_16 ?hz_16 ?_; (case F_16 => k_asm); (case N_16 => k_asm); (case ht_16 => k_extra "k_mem"); (case hb_16 => k_extra "k_mem"); (case hz_16 => (simp only [List.length_map, List.length_nil]; first | exact Nat.le_of_ble_eq_true rfl | lia | omega))))
  k_with "tbn_conj" => first | exact abv_nil | assumption | exact abv_one (by assumption) | (refine abv_next (by first | assumption | exact And.left (by assumption) | lia | omega) ?_; k_extra "tbn_conj") | exact abv_oneA (by first | assumption | exact And.right (by assumption) | exact And.right (And.right (by assumption))) | (refine abv_all (by assumption) ?_; k_extra "tbn_conj") | (refine abv_allA (by first | assumption | exact And.right (by assumption) | exact And.right (And.right (by assumption))) ?_; k_extra "tbn_conj") | (refine abv_allS (by assumption) (by simp only [List.cons_append, List.append_assoc, List.nil_append]) ?_; k_extra "tbn_conj") | (refine abv_app ?_ ?_ <;> k_extra "tbn_conj")
  k_with "o mem9" => (with_reducible first | exact List.mem_cons_self | (refine List.mem_cons_of_mem _ ?_; k_extra "o mem9") | (refine List.mem_append_right _ ?_; k_extra "o mem9") | (refine List.mem_append_left _ ?_; k_extra "o mem9") | assumption)
  k_with "o subv" => (with_reducible first | exact sub_rfl | exact sub_le | (refine sub_tl ?_; k_extra "o subv") | (refine sub_ri ?_; k_extra "o subv") | (refine sub_lf ?_; k_extra "o subv"))
  k_with "o sub9" => first | k_extra "o subv" | exact sub_nil | ((with_reducible refine sub_cons ?_ ?_); (k_extra "o mem9"); k_extra "o sub9") | ((with_reducible refine sub_app ?_ ?_); k_extra "o sub9"; k_extra "o sub9")
  k_with "ktd_rel" => first | with_reducible assumption | ((with_reducible refine IsFrm.mono ?_ (by with_reducible assumption)); k_extra "o sub9") | ((with_reducible refine IsTag.mono ?_ (by with_reducible assumption)); k_extra "o sub9") | ((with_reducible refine TagsAt.mono ?_ (by with_reducible assumption)); k_extra "o sub9") | ((with_reducible refine RowsAt.mono ?_ (by with_reducible assumption)); k_extra "o sub9") | ((with_reducible refine' IsFrm.of ?q1_39 ?q2_39 ?q3_39); (case q1_39 => k_extra "k_mem"); (case q2_39 => k_extra "k_mem"); (case q3_39 => k_extra "k_mem")) | ((with_reducible refine' IsTag.of ?q1_39 ?q2_39); (case q1_39 => k_extra "k_mem"); (case q2_39 => k_extra "k_mem"))
  k_with "k_all" => first | (refine' allNe_of ?h1_45 ?h2_45; (case h1_45 => assumption); (case h2_45 => first | exact Nat.le_refl _ | exact Nat.le_succ _ | lia | omega)) | (refine' allNe_ofA ?h1_45 ?h2_45; (case h1_45 => assumption); (case h2_45 => first | exact Nat.le_refl _ | exact Nat.le_succ _ | lia | omega)) | (refine' allNe_ofA1 ?h1_45 ?h2_45; (case h1_45 => assumption); (case h2_45 => first | exact Nat.le_refl _ | exact Nat.le_succ _ | lia | omega)) | (refine' allNe_ofA2 ?h1_45 ?h2_45; (case h1_45 => assumption); (case h2_45 => first | exact Nat.le_refl _ | exact Nat.le_succ _ | lia | omega))
  k_with "o call ref" => (k_here; (with_reducible show wpAny _ _ (call (Value.ref 253) _) _ _ _); refine stop_of ?_)
  k_with "o call ref" => (k_here; (with_reducible show wpAny _ _ (call (Value.ref 253) _) _ _ _); k_dflt (refine' Ctr.use (frame_told _ _ _ _ _ _ ?kc_76 ?kt_76 ?kn_76) ?k1_76 ?k2_76 ?k3_76 ?k4_76 ?k5_76 ?kK_76 ?kd_76 ?ku_76 ?_; (case k1_76 => k_asm); (case k2_76 => k_asm); (case k3_76 => k_asm); (case k4_76 => k_asm); (case k5_76 => k_asm); (case kK_76 => first | exact rfl | assumption); (case kd_76 => ktr_room); (case ku_76 => ktr_units); (case kc_76 => k_extra "ktd_rel"); (case kt_76 => first | k_extra "ktd_rel" | exact TagsAt.cons_ (by k_extra "ktd_rel") (by k_extra "ktd_rel")); (case kn_76 => (simp only [List.length_cons]; first | exact Nat.le_of_ble_eq_true rfl | lia | omega)); k_whole; intros; (try dsimp only); (try k_sweep); (try k_fold)))
  k_with "o call ref" => (k_here; (with_reducible show wpAny _ _ (call (Value.ref 359) _) _ _ _); refine stop_of ?_)
  k_with "o call ref" => (k_here; (with_reducible show wpAny _ _ (call (Value.ref 359) _) _ _ _); k_dflt (refine' Ctr.use (with_vlan_ok _ _ _ _ _ _ _ ?kc_77 ?kt_77 ?kz_77 _ _) ?k1_77 ?k2_77 ?k3_77 ?k4_77 ?k5_77 ?kK_77 ?kd_77 ?ku_77 ?_; (case k1_77 => k_asm); (case k2_77 => k_asm); (case k3_77 => k_asm); (case k4_77 => k_asm); (case k5_77 => k_asm); (case kK_77 => first | exact rfl | assumption); (case kd_77 => ktr_room); (case ku_77 => ktr_units); (case kc_77 => k_extra "ktd_rel"); (case kt_77 => k_extra "ktd_rel"); (case kz_77 => first | exact Nat.le_of_ble_eq_true rfl | lia | omega); k_whole; intros; (try dsimp only); (try k_sweep); (have hfr8 := (by with_reducible assumption : IsFrm _ _ _ _ _)); (rcases hfr8 with ⟨_, _, _, _, _, _, _, _, _, _⟩); (try k_fold)))
  k_with "o call ref" => (k_here; (with_reducible show wpAny _ _ (call (Value.ref 366) _) _ _ _); refine stop_of ?_)
  k_with "o call ref" => (k_here; (with_reducible show wpAny _ _ (call (Value.ref 366) _) _ _ _); k_dflt (refine' Ctr.use (with_priority_ok _ _ _ _ _ _ _ ?kc_78 ?kt_78 ?kz_78 _ _) ?k1_78 ?k2_78 ?k3_78 ?k4_78 ?k5_78 ?kK_78 ?kd_78 ?ku_78 ?_; (case k1_78 => k_asm); (case k2_78 => k_asm); (case k3_78 => k_asm); (case k4_78 => k_asm); (case k5_78 => k_asm); (case kK_78 => first | exact rfl | assumption); (case kd_78 => ktr_room); (case ku_78 => ktr_units); (case kc_78 => k_extra "ktd_rel"); (case kt_78 => k_extra "ktd_rel"); (case kz_78 => first | exact Nat.le_of_ble_eq_true rfl | lia | omega); k_whole; intros; (try dsimp only); (try k_sweep); (have hfr8 := (by with_reducible assumption : IsFrm _ _ _ _ _)); (rcases hfr8 with ⟨_, _, _, _, _, _, _, _, _, _⟩); (try k_fold)))
  k_with "o binaryOp Add ref ref" => (k_here; refine stop_of ?_)
  k_with "o subscriptTail" => (k_here; (with_reducible show wpAny _ _ (subscriptTail _ _ (Value.ref _) (Value.int 0 _)) _ _ _); k_dflt (refine' item_lst0 ?N_79 ?hm_79 ?_; (case N_79 => k_asm); (case hm_79 => with_reducible k_extra "k_mem")))
  k_with "o subscriptTail Name Slice ref ref" => (k_here; k_dflt (refine' from_lst1 ?F_80 ?N_80 ?hm_80 ?hz_80 ?_; (case F_80 => k_asm); (case N_80 => k_asm); (case hm_80 => with_reducible k_extra "k_mem"); (case hz_80 => (simp only [List.length_map]; first | exact Nat.le_of_ble_eq_true rfl | lia | omega))); intro _ _ _ _ l1; (try k_lt l1); (try (revert l1; intro _)); (try k_sweep))
  k_with "o subscriptTail Name Slice ref ref" => (k_here; k_dflt (refine' upto_led2 ?F_81 ?N_81 ?hm_81 ?hz_81 ?_; (case F_81 => k_asm); (case N_81 => k_asm); (case hm_81 => with_reducible k_extra "k_mem"); (case hz_81 => exact Nat.le_of_ble_eq_true rfl)); intro _ _ _ _ l1; (try k_lt l1); (try (revert l1; intro _)); (try k_sweep))
  k_with "o subscriptTail Name Slice ref ref" => (k_here; k_dflt (refine' from_led3 ?F_82 ?N_82 ?hm_82 ?hz_82 ?_; (case F_82 => k_asm); (case N_82 => k_asm); (case hm_82 => with_reducible k_extra "k_mem"); (case hz_82 => exact Nat.le_of_ble_eq_true rfl)); intro _ _ _ _ l1; (try k_lt l1); (try (revert l1; intro _)); (try k_sweep))
  k_with "o binaryOp Add ref ref" => (k_here; k_dflt (refine' add_ledTm ?F_83 ?N_83 ?ht_83 ?hb_83 ?hz_83 ?_; (case F_83 => k_asm); (case N_83 => k_asm); (case ht_83 => with_reducible k_extra "k_mem"); (case hb_83 => with_reducible k_extra "k_mem"); (case hz_83 => (simp only [List.length_map, List.length_nil]; first | exact Nat.le_of_ble_eq_true rfl | lia | omega))); intro _ _ _ _ _ _ m1; (try simp only [List.nil_append] at m1); (try (revert m1; intro _)); (try k_sweep))
  k_with "o binaryOp Add ref ref" => (k_here; k_dflt (refine' add_ledT1 ?F_84 ?N_84 ?ht_84 ?hb_84 ?hz_84 ?_; (case F_84 => k_asm); (case N_84 => k_asm); (case ht_84 => with_reducible k_extra "k_mem"); (case hb_84 => with_reducible k_extra "k_mem"); (case hz_84 => (simp only [List.length_map, List.length_nil, List.length_cons, List.length_append]; first | exact Nat.le_of_ble_eq_true rfl | lia | omega))); intro _ _ _ _ l1; (try k_lt l1); (try (revert l1; intro _)); (try k_sweep))
  k_with "o compareOp NotEq ref ref" => (k_here; refine stop_of ?_)
  k_with "o compareOp Eq ref ref" => (k_here; refine stop_of ?_)
  k_with "o compareOp Eq ref ref" => (k_here; k_dflt (refine' eq_tups (n := 2) ?N_85 ?ha_85 ?hb_85 ?r_85 ?hu_85 ?_; (case N_85 => k_asm); (case ha_85 => with_reducible k_extra "k_mem"); (case hb_85 => with_reducible k_extra "k_mem"); (case hu_85 => ktr_units); (case r_85 => refine' told_eqv ?hT_85 ?hU_85 ?hx_85 ?hy_85; (case hT_85 => with_reducible k_extra "k_mem"); (case hU_85 => with_reducible k_extra "k_mem"); (case hx_85 => k_extra "ktd_rel"); (case hy_85 => k_extra "ktd_rel"))))
  k_with "o compareOp Eq ref ref" => (k_here; k_dflt (refine' eq_tups (n := 2) ?N_86 ?ha_86 ?hb_86 ?r_86 ?hu_86 ?_; (case N_86 => k_asm); (case ha_86 => with_reducible k_extra "k_mem"); (case hb_86 => with_reducible k_extra "k_mem"); (case hu_86 => ktr_units); (case r_86 => refine' told_eqvD ?hT_86 ?hU_86 ?hx_86 ?hd_86 ?hy_86; (case hT_86 => with_reducible k_extra "k_mem"); (case hU_86 => with_reducible k_extra "k_mem"); (case hx_86 => k_extra "ktd_rel"); (case hd_86 => with_reducible k_extra "k_mem"); (case hy_86 => k_extra "ktd_rel"))))
  k_with "o subscriptTail" => (k_here; (with_reducible show wpAny _ _ (subscriptTail _ _ (Value.ref _) (Value.int _ _)) _ _ _); k_dflt (refine' item_tupleT ?t_87 ?a_87 ?b_87 ?c_87 ?d_87 ?_; (case t_87 => exact News.isTup (by k_asm) (by with_reducible k_extra "k_mem")); (case a_87 => decide); (case b_87 => decide); (case c_87 => rfl); (case d_87 => rfl); k_whole))
  k_with "o callWith ref" => (k_here; k_dflt (refine' callWith_K ?k1_70 ?k2_70 ?_; (case k1_70 => k_asm); (case k2_70 => k_is); k_whole))
  have hf0 := hf
  obtain ⟨dx, tu0, a, b, c, d, e, hx, hdx, htu⟩ := hf
  have ht2 := ht.2
  have hy2 := hy.2
  have hl1 : xr.length = ts.length := ht.2.length
  have hl2 : ys.length = ts.length := hy.2.length
  have ht0 := ht.1
  have hy0 := hy.1
  intro pr loose mean mg mb dp un gd cn cs ad ccd cl outer A₀ base h₀ L m s Q E B F X N T hk hd' hu hret
  k_steps
  unfold Stop
  rename_i n2 n3 n4 n5 n6 n7 n8 n9 n10 n11 n12 n13 n14 n15 n16 n17 n18 n19 n20 n21 n22 n23 n24 n25 n26 n27 n28 n29 n30 n31 n32 n33 n34 n35 n36 n37 n38 n39 n40 n41 n42 n43 n44 n45 n46 n47 n48 n49 n50 n51 n52 n53 n54 n55 n56 n57 n58 n59 n60 n61 n62 n63 n64 n65 n66 n67 n68 n69 n70 n71 n72 n73 n74 n75 n76 n77 n78 n79 n80 n81 n82 n83 n84 n85 n86 n87 n88 n89 n90 n91
  refine' ne_tups (n := 2) ?N ?ha ?hb ?r ?hu ?_
  (case N => k_asm)
  (case ha => with_reducible k_extra "k_mem")
  (case hb => with_reducible k_extra "k_mem")
  (case hu => ktr_units)
  (case r => refine' told_eqvD ?hT ?hU ?hx ?hd ?hy; (case hT => with_reducible k_extra "k_mem"); (case hU => with_reducible k_extra "k_mem"); (case hx => k_extra "ktd_rel"); (case hd => with_reducible k_extra "k_mem"); (case hy => k_extra "ktd_rel"))
  have nn := news_subX (l := n9 ++ news) n90 (by intro q9 hq9; with_reducible k_extra "k_mem")
  clear n91 n90 n86 n83 n80 n77 n72 n71 n70 n69 n68 n61 n60 n59 n51 n50 n49 n43 n42 n38 n35 n32 n29 n22
  k_steps
  all_goals
    refine' hret _ _ ?qf (news_subX ?qn ?qml)
    (case qf => assumption)
    (case qn => assumption)
    (case qml => (intro q9 hq9; with_reducible k_extra "k_mem"))
end
end
section
open PySem PySem.W PyProof.Rows PySem.Calls PySem.Spec
set_option maxRecDepth 100000
set_option maxHeartbeats 4000000
theorem For_rngG {prog : Program} {w : World} {A : Around} {E : Value → Shared → Prop} {s : Shared} {m : Str → Option Value} {env : Env} {pr : Program} {loose : List Str} {mean : ExcName → Option Value} {mg mb : Str → Option Value} {A₀ : Around} {base g₁ g₀ : Heap} {outer : List Env} {Q : Flow → Shared → Prop} {x : Str} {px pos : Pos} {iter : PySem.Expr} {body : List Stmt}
    (_F : Fr g₁ env.locals s.heap m) (_B : Below A₀ base outer g₁) (_XB : (hd.heap_1 w.params).In base) (_TB : Top pr loose mean mg mb base) (_T0 : KtsTurn (outer.filterMap (·.frame)) g₀ g₁)
    (hx : env.kindOf x = some .local) (hp : (env.scope.kind == .class || (env.scope.kind == .module && env.locals != env.globals)) = false)
    (h : wpAny (model prog w) A (eval iter env) (RngAt prog w A (GPS w pr loose mean mg mb A₀ base outer g₀) env x body Q E) E s)
    (hs : ∀ x, foldedSetIterable iter env x = pure x)
    (hE : PassesOwn (model prog w) A env E) :
    wpAny (model prog w) A (exec (.For (.Name x px) iter body [] pos) env) Q E s := For_rngS _ hx hp h hs hE
noncomputable def TakenJ (w : World) (news : Led) (xs : List Addr) (m₀ : Str → Option Value) (i : Nat) (m : Str → Option Value) (nw : Led) : Prop :=
  ∃ x f B tl, m = (fun z => if z = Str.ofString "at" then B else if z = Str.ofString "frame" then some (.ref x) else m₀ z) ∧ nw = tl ++ news ∧ IsFrm w nw x f (xs.drop i)
theorem IsFrm.dropX {w : World} {pre post : Led} {D x : Addr} {o : Obj} {f : FrameV} {xs : List Addr} (k : IsFrm w (pre ++ (D, o) :: post) x f xs) (h1 : o.cls ≠ .ref 264) (h2 : o.cls ≠ .type "dict") (h3 : o.cls ≠ .type "tuple") : IsFrm w (pre ++ post) x f xs := by
  obtain ⟨dx, tu, a, b, c, d, e, m1, m2, m3⟩ := k
  have go : ∀ {y : Addr} {u : Obj}, u.cls ≠ o.cls → (y, u) ∈ pre ++ (D, o) :: post → (y, u) ∈ pre ++ post := by
    intro y u hu hm
    rcases List.mem_append.mp hm with h | h
    · exact List.mem_append_left _ h
    · rcases List.mem_cons.mp h with h | h
      · cases h; exact absurd rfl hu
      · exact List.mem_append_right _ h
  exact ⟨dx, tu, a, b, c, d, e, go (fun q => h1 q.symm) m1, go (fun q => h2 q.symm) m2, go (fun q => h3 q.symm) m3⟩
theorem drop_at {α : Type} : ∀ {l : List α} {i : Nat}, i < l.length → ∃ x r, l.drop i = x :: r ∧ l[i]? = some x ∧ l.drop (i + 1) = r
  | [], _, h => nomatch h
  | a :: l, 0, _ => ⟨a, l, rfl, rfl, rfl⟩
  | _ :: l, i + 1, h => by simpa using drop_at (l := l) (i := i) (by simpa using h)
theorem TagsAt.drop {w : World} {a : Led} : ∀ {xs : List Addr} {ts : List TagV} (i : Nat), TagsAt w a xs ts → TagsAt w a (xs.drop i) (ts.drop i)
  | _, _, 0, h => h
  | _ :: _, _ :: _, i + 1, h => TagsAt.drop i h.2
  | [], [], _ + 1, _ => trivial
  | [], _ :: _, _, h => h.elim
  | _ :: _, [], _, h => h.elim
theorem RowsAt.drop {a : Led} : ∀ {xs : List Addr} {ts : List TagV} (i : Nat), RowsAt a xs ts → RowsAt a (xs.drop i) (ts.drop i)
  | _, _, 0, h => h
  | _ :: _, _ :: _, i + 1, h => RowsAt.drop i h.2
  | [], [], _ + 1, _ => trivial
  | [], _ :: _, _, h => h.elim
  | _ :: _, [], _, h => h.elim
section
variable {prog : Program} {w : World} {A : Around} {E : Value → Shared → Prop} {s : Shared} {h₀ : Heap} {L : Addr} {m : Str → Option Value} {news : Led} {Q : Value → Shared → Prop} {value slice : PySem.Expr}
theorem item_lstI {l : Addr} {x : Value} {vs : List Value} {k i : Nat} {u : Tok} (N : News h₀ L s.heap news) (hm : (l, ({ cls := .type "list", data := .seq vs.toArray k } : Obj)) ∈ news) (hx : vs[i]? = some x) (hz : i ≤ 5000) (h : Q x s)
    (hs : subscripted slice false (.ref l) (.int (i : Int) u) = operate [.ref l, .int (i : Int) u] (getItem (.ref l) (.int (i : Int) u)) := by with_unfolding_all rfl) (hg : ∀ r, letTemporaryGo value (.ref l) r = pure () := by intro _; with_unfolding_all rfl) :
    wpAny (model prog w) A (subscriptTail value slice (.ref l) (.int (i : Int) u)) Q E s := by
  have hl : i < vs.length := by
    rcases Nat.lt_or_ge i vs.length with h | h
    · exact h
    · rw [List.getElem?_eq_none h] at hx; cases hx
  exact item_listL (l := vs) ⟨_, (N _ hm).1, rfl, _, rfl⟩ (by (first | lia | omega)) (by (first | lia | omega)) (by simpa using hx) h hs hg
theorem from_lstI {l : Addr} {vs ws : List Value} {a k : Nat} {u : Tok} (F : Fr h₀ L s.heap m) (N : News h₀ L s.heap news) (hm : (l, ({ cls := .type "list", data := .seq vs.toArray k } : Obj)) ∈ news) (hz : vs.length ≤ 5000) (hw : vs.drop a = ws)
    (h : ∀ D h', Fr h₀ L h' m → News h₀ L h' ((D, ({ cls := .type "list", data := .seq ws.toArray } : Obj)) :: news) → (∀ q ∈ news, @LT.lt Nat _ q.1 D) → Q (.ref D) { s with heap := h' })
    (hs : subscripted slice false (.ref l) (.ref s.heap.objs.size) = operate [.ref s.heap.objs.size, .ref l] (getItem (.ref l) (.ref s.heap.objs.size)) := by with_unfolding_all rfl)
    (ht : ∀ r, letTemporaryGo value (.ref l) r = pure () := by intro _; with_unfolding_all rfl) :
    wpAny (model prog w) A (subscriptTail value slice (.ref l) (.ref s.heap.objs.size)) Q E { s with heap := s.heap.push { cls := .type "slice", data := .fields #[.int (a : Int) u, .none, .none] } } := by
  subst hw; exact from_lst F N hm hz h hs ht
theorem ne_rows {news : Led} {d : Addr} {xs ys : List Addr} {t : TagV} {ts : List TagV} (hx : RowsAt news xs (t :: ts)) (hd : (d, rowObj t) ∈ news) (hy : RowsAt news ys ts) : EqvA news 1 (xs.map Value.ref) (Value.ref d :: ys.map Value.ref) := rows_eqv (ys := d :: ys) hx ⟨hd, hy⟩
end
theorem take_set {a b : Str} (hab : a ≠ b) (u v B C : Option Value) (m₀ : Str → Option Value) : (fun y => if y = b then v else if y = a then u else if y = a then B else if y = b then C else m₀ y) = fun y => if y = a then u else if y = b then v else m₀ y := by
  funext y
  by_cases h1 : y = a
  · subst h1; simp [hab]
  · by_cases h2 : y = b
    · subst h2; simp [h1]
    · simp [h1, h2]
theorem take_set0 {a b : Str} {x : Value} {m : Str → Option Value} (hb : m b = some x) : m = fun y => if y = a then m a else if y = b then some x else m y := by
  funext y
  by_cases h1 : y = a
  · subst h1; simp
  · by_cases h2 : y = b
    · subst h2; simp [h1, hb]
    · simp [h1, h2]
section
theorem taken_right_ok (w : World) (news : Led) (r x : Addr) (k : Nat) (f : FrameV) (xs ys : List Addr) (ts : List TagV) (hf : IsFrm w news x f xs) (ht : TagsAt w news xs ts) (hr : (r, ({ cls := .type "list", data := .seq (ys.map Value.ref).toArray k } : Obj)) ∈ news) (hy : RowsAt news ys ts) (hn : ts.length ≤ 4) (v p : Int) (tv tp : Tok) (c1 c2 c3 : Addr) (o1 o2 o3 : Obj) (htb : (408, bareTab c1 c2 c3) ∈ news) (hc1 : (c1, o1) ∈ news) (hc2 : (c2, o2) ∈ news) (hc3 : (c3, o3) ∈ news) (hk1 : CodeObj bareQ o1) (hk2 : CodeObj bareQ o2) (hk3 : CodeObj bareQ o3) :
    CtrS w 425 80 800 [.ref r, .ref x, .int v tv, .int p tp] news (fun R => R news (.bool true)) := by
  k_with_none
  w_top off
  k_with "k_mem" => first | assumption | exact List.mem_cons_self | (refine List.mem_cons_of_mem _ ?_; k_extra "k_mem") | (refine List.mem_append_right _ ?_; k_extra "k_mem") | (refine List.mem_append_left _ ?_; k_extra "k_mem")
  k_with "k_all" => assumption
  k_with "ktr_room" => ((try simp only [depth_under_make, depth_under_kw, depth_in1, depth_deeper, depth_caller]); (try dsimp only [ktrTop]); first | exact room0 (by with_reducible assumption) | exact room1 (by with_reducible assumption) rfl | exact room2 (by with_reducible assumption) rfl | exact room3 (by with_reducible assumption) rfl | exact Nat.le_of_ble_eq_true rfl | lia | omega)
  k_with "k_room" => ktr_room
  k_with "ktr_units" => ((try simp only [units_in1, units_deeper, Around.mark_units, units_caller]); (try dsimp only [ktrTop]); first | exact room0 (by with_reducible assumption) | exact room1 (by with_reducible assumption) rfl | exact room2 (by with_reducible assumption) rfl | exact room3 (by with_reducible assumption) rfl | exact Nat.le_of_ble_eq_true rfl | ((have hcL9 := cLine_is); (first | lia | omega)))
  k_with "k_enter" => (refine' code_defC ?k1_20 ?k2_20 ?k3_20 ?k4_20 ?k5_20 ?kA_20 ?kF_20 ?kK_20 ?k6_20 ?k7_20 ?k8_20 ?k9_20 ?kB_20 ?kD_20 ?_ ?c2_20 ?c3_20 ?c4_20; (case kA_20 => exact rfl); (case kF_20 => exact rfl); (case kK_20 => first | exact rfl | assumption); (case k1_20 => k_asm); (case k2_20 => k_asm); (case k3_20 => k_asm); (case k4_20 => k_asm); (case k5_20 => k_asm); (case k6_20 => k_is); (case k7_20 => k_is); (case k8_20 => k_room); (case k9_20 => first | exact BindsTo.of_eq rfl | exact binds_K (by k_in) rfl (by k_is) rfl rfl rfl | fail "k_enter: no rule for these arguments"); (case kB_20 => exact rfl); (case kD_20 => decide +kernel); (case c2_20 => exact rfl); (case c3_20 => exact rfl); (case c4_20 => exact rfl); k_whole; intro _ _ _ _ _ _ _ N' Y' B' _ _ l1; (try k_lt l1); k_cells Y'; (try simp only [List.cons_append, List.nil_append] at N'); (try dsimp only); (try k_lift B'); (try k_fold))
  k_with "k_enter" => (refine' code_def ?k1_0 ?k2_0 ?k3_0 ?k4_0 ?k5_0 ?kA_0 ?kF_0 ?kK_0 ?k6_0 ?k7_0 ?k8_0 ?k9_0 ?kB_0 ?_ ?c2_0 ?c3_0 ?c4_0 ?c5_0; (case kA_0 => exact rfl); (case kF_0 => exact rfl); (case kK_0 => first | exact rfl | assumption); (case k1_0 => k_asm); (case k2_0 => k_asm); (case k3_0 => k_asm); (case k4_0 => k_asm); (case k5_0 => k_asm); (case k6_0 => k_is); (case k7_0 => k_is); (case k8_0 => k_room); (case k9_0 => first | exact BindsTo.of_eq rfl | exact binds_K (by k_in) rfl (by k_is) rfl rfl rfl | fail "k_enter: no rule for these arguments"); (case c5_0 => decide); (case kB_0 => exact locs rfl); (case c2_0 => exact rfl); (case c3_0 => exact rfl); (case c4_0 => exact rfl); k_whole; intro _ _ _ _ _ _ B' _ _; (try dsimp only); (try k_lift B'); (try k_fold))
  k_with "o call type:tuple" => (k_here; (with_reducible show wpAny _ _ (call (Value.type _) [Value.ref _]) _ _ _); k_dflt (refine call_tuple_tup (News.isTup (by k_asm) (by k_extra "k_mem")) ?_))
  k_with "o call type:bytes" => (k_here; (with_reducible show wpAny _ _ (call (Value.type _) [Value.bytes _ _]) _ _ _); refine call_bytes_same ?_)
  k_with "o call type:tuple" => (k_here; (with_reducible show wpAny _ _ (call (Value.type _) [Value.ref _]) _ _ _); k_dflt (refine' tupleOf_ys ?F_18 ?N_18 ?hm_18 ?hz_18 ?_; (case F_18 => k_asm); (case N_18 => k_asm); (case hm_18 => k_extra "k_mem"); (case hz_18 => first | assumption | exact Nat.le_of_ble_eq_true rfl); k_whole); intro _ _ _ _ l1; (try k_lt l1); (try (revert l1; intro _)); (try k_sweep))
  k_with "o compareOp Eq ref ref" => (k_here; (with_reducible show wpAny _ _ (compareOp _ (Value.ref _) (Value.ref _)) _ _ _); k_dflt (refine' eq_tups_nil (by k_asm) ?ka_8 (by k_extra "k_mem") (by ktr_units) ?_; (case ka_8 => k_extra "k_mem")); (try simp only [reduceCtorEq, decide_false, decide_true, Bool.not_false, Bool.not_true]))
  k_with "o compareOp NotEq ref ref" => (k_here; (with_reducible show wpAny _ _ (compareOp _ (Value.ref _) (Value.ref _)) _ _ _); k_dflt (refine' ne_tups_nil (by k_asm) ?ka_9 (by k_extra "k_mem") (by ktr_units) ?_; (case ka_9 => k_extra "k_mem")); (try simp only [reduceCtorEq, decide_false, decide_true, Bool.not_false, Bool.not_true]))
  k_with "o subscriptTail" => (k_here; (with_reducible show wpAny _ _ (subscriptTail _ _ (Value.ref _) (Value.int 0 _)) _ _ _); k_dflt (refine item_ledT0 (News.isTup (by k_asm) (by k_extra "k_mem")) ?_))
  k_with "o subscriptTail" => (k_here; (with_reducible show wpAny _ _ (subscriptTail _ _ (Value.ref _) (Value.ref _)) _ _ _); k_dflt (refine' from_ledT1 ?F_13 ?N_13 ?ht_13 ?hz_13 ?_; (case F_13 => k_asm); (case N_13 => k_asm); (case ht_13 => k_extra "k_mem"); (case hz_13 => first | assumption | (simp only [List.length_map]; first | exact Nat.le_of_ble_eq_true rfl | lia | omega))); intro _ _ _ _ l1; (try k_lt l1); (try (revert l1; intro _)); (try k_sweep))
  k_with "o binaryOp Add ref ref" => (k_here; (with_reducible show wpAny _ _ (binaryOp _ (Value.ref _) (Value.ref _)) _ _ _); k_dflt (refine' add_ledTm ?F_14 ?N_14 ?ht_14 ?hb_14 ?hz_14 ?_; (case F_14 => k_asm); (case N_14 => k_asm); (case ht_14 => k_extra "k_mem"); (case hb_14 => k_extra "k_mem"); (case hz_14 => (simp only [List.length_map, List.length_nil]; first | exact Nat.le_of_ble_eq_true rfl | lia | omega))); intro _ _ _ _ _ _ _; (try k_sweep))
  k_with "o binaryOp Add ref ref" => (k_here; (with_reducible show wpAny _ _ (binaryOp _ (Value.ref _) (Value.ref _)) _ _ _); k_dflt (refine' add_ledT1 ?F_15 ?N_15 ?ht_15 ?hb_15 ?hz_15 ?_; (case F_15 => k_asm); (case N_15 => k_asm); (case ht_15 => k_extra "k_mem"); (case hb_15 => k_extra "k_mem"); (case hz_15 => (simp only [List.length_map, List.length_nil]; first | exact Nat.le_of_ble_eq_true rfl | lia | omega))); intro _ _ _ _ l1; (try k_lt l1); (try (revert l1; intro _)); (try k_sweep))
  k_with "o binaryOp Add ref ref" => (k_here; (with_reducible show wpAny _ _ (binaryOp _ (Value.ref _) (Value.ref _)) _ _ _); k_dflt (refine' add_ledT0 ?F_16 ?N_16 ?ht_16 ?hb_16 ?hz_16 ?_; (case F_16 => k_asm); (case N_16 => k_asm); (case ht_16 => k_extra "k_mem"); (case hb_16 => k_extra "k_mem"); (case hz_16 => (simp only [List.length_map, List.length_nil]; first | exact Nat.le_of_ble_eq_true rfl | lia | omega))))
  k_with "tbn_conj" => first | exact abv_nil | assumption | exact abv_one (by assumption) | (refine abv_next (by first | assumption | exact And.left (by assumption) | lia | omega) ?_; k_extra "tbn_conj") | exact abv_oneA (by first | assumption | exact And.right (by assumption) | exact And.right (And.right (by assumption))) | (refine abv_all (by assumption) ?_; k_extra "tbn_conj") | (refine abv_allA (by first | assumption | exact And.right (by assumption) | exact And.right (And.right (by assumption))) ?_; k_extra "tbn_conj") | (refine abv_allS (by assumption) (by simp only [List.cons_append, List.append_assoc, List.nil_append]) ?_; k_extra "tbn_conj") | (refine abv_app ?_ ?_ <;> k_extra "tbn_conj")
  k_with "o mem9" => (with_reducible first | exact List.mem_cons_self | (refine List.mem_cons_of_mem _ ?_; k_extra "o mem9") | (refine List.mem_append_right _ ?_; k_extra "o mem9") | (refine List.mem_append_left _ ?_; k_extra "o mem9") | assumption)
  k_with "o subv" => (with_reducible first | exact sub_rfl | exact sub_le | (refine sub_tl ?_; k_extra "o subv") | (refine sub_ri ?_; k_extra "o subv") | (refine sub_lf ?_; k_extra "o subv"))
  k_with "o sub9" => first | k_extra "o subv" | exact sub_nil | ((with_reducible refine sub_cons ?_ ?_); (k_extra "o mem9"); k_extra "o sub9") | ((with_reducible refine sub_app ?_ ?_); k_extra "o sub9"; k_extra "o sub9")
  k_with "ktd_rel" => first | with_reducible assumption | ((with_reducible refine IsFrm.mono ?_ (by with_reducible assumption)); k_extra "o sub9") | ((with_reducible refine IsTag.mono ?_ (by with_reducible assumption)); k_extra "o sub9") | ((with_reducible refine TagsAt.mono ?_ (by with_reducible assumption)); k_extra "o sub9") | ((with_reducible refine RowsAt.mono ?_ (by with_reducible assumption)); k_extra "o sub9") | ((with_reducible refine' IsFrm.of ?q1_39 ?q2_39 ?q3_39); (case q1_39 => k_extra "k_mem"); (case q2_39 => k_extra "k_mem"); (case q3_39 => k_extra "k_mem")) | ((with_reducible refine' IsTag.of ?q1_39 ?q2_39); (case q1_39 => k_extra "k_mem"); (case q2_39 => k_extra "k_mem"))
  k_with "k_all" => first | (refine' allNe_of ?h1_45 ?h2_45; (case h1_45 => assumption); (case h2_45 => first | exact Nat.le_refl _ | exact Nat.le_succ _ | lia | omega)) | (refine' allNe_ofA ?h1_45 ?h2_45; (case h1_45 => assumption); (case h2_45 => first | exact Nat.le_refl _ | exact Nat.le_succ _ | lia | omega)) | (refine' allNe_ofA1 ?h1_45 ?h2_45; (case h1_45 => assumption); (case h2_45 => first | exact Nat.le_refl _ | exact Nat.le_succ _ | lia | omega)) | (refine' allNe_ofA2 ?h1_45 ?h2_45; (case h1_45 => assumption); (case h2_45 => first | exact Nat.le_refl _ | exact Nat.le_succ _ | lia | omega))
  k_with "k_enter" => (refine' codeTC ?k1_56 ?k2_56 ?k3_56 ?k4_56 ?k5_56 ?XB_56 ?TB_56 ?D_56 ?T0_56 ?kA_56 ?kF_56 ?kK_56 ?k6_56 ?k7_56 ?k8_56 ?k9_56 ?kB_56 ?kD_56 ?_ ?c2_56 ?c3_56 ?c4_56; (case kA_56 => exact rfl); (case kF_56 => exact rfl); (case kK_56 => first | exact rfl | assumption); (case k2_56 => assumption); (case k1_56 => assumption); (case XB_56 => assumption); (case TB_56 => assumption); (case D_56 => assumption); (case T0_56 => first | assumption | exact KtsTurn.refl); (case k3_56 => k_asm); (case k4_56 => k_asm); (case k5_56 => k_asm); (case k6_56 => k_is); (case k7_56 => k_is); (case k8_56 => k_room); (case k9_56 => first | exact BindsTo.of_eq rfl | exact binds_K (by k_in) rfl (by k_is) rfl rfl rfl | fail "k_enter: no rule for these arguments"); (case kB_56 => exact rfl); (case kD_56 => decide +kernel); (case c2_56 => exact rfl); (case c3_56 => exact rfl); (case c4_56 => exact rfl); k_whole; intro _ _ _ _ _ _ _ N' Y' B' _ _ l1 _; (try k_lt l1); k_cells Y'; (try simp only [List.cons_append, List.nil_append] at N'); (try dsimp only); (try k_lift B'); (try show wpAny _ _ _ _ _ _); (try k_fold))
  k_with "k_enter" => (refine' codeT ?k1_57 ?k2_57 ?k3_57 ?k4_57 ?k5_57 ?XB_57 ?TB_57 ?D_57 ?T0_57 ?kA_57 ?kF_57 ?kK_57 ?k6_57 ?k7_57 ?k8_57 ?k9_57 ?kB_57 ?_ ?c2_57 ?c3_57 ?c4_57 ?c5_57; (case kA_57 => exact rfl); (case kF_57 => exact rfl); (case kK_57 => first | exact rfl | assumption); (case k2_57 => assumption); (case k1_57 => assumption); (case XB_57 => assumption); (case TB_57 => assumption); (case D_57 => assumption); (case T0_57 => first | assumption | exact KtsTurn.refl); (case k3_57 => k_asm); (case k4_57 => k_asm); (case k5_57 => k_asm); (case k6_57 => k_is); (case k7_57 => k_is); (case k8_57 => k_room); (case k9_57 => first | exact BindsTo.of_eq rfl | exact binds_K (by k_in) rfl (by k_is) rfl rfl rfl | fail "k_enter: no rule for these arguments"); (case c5_57 => decide); (case kB_57 => exact locs rfl); (case c2_57 => exact rfl); (case c3_57 => exact rfl); (case c4_57 => exact rfl); k_whole; intro _ _ _ _ _ _ B' _ _ _; (try dsimp only); (try k_lift B'); (try show wpAny _ _ _ _ _ _); (try k_fold))
  k_with "o LeaveT" => (k_dflt (refine' leaveT_ ?F_58 ?N_58 ?T_58 ?_; (case F_58 => assumption); (case N_58 => assumption); (case T_58 => first | assumption | exact KtsTurn.refl); k_whole); intro _ _ _ _ kB _ _ _; (try k_lift kB); (try dsimp only))
  k_with "o callWith ref" => (k_here; k_dflt (refine' callWith_K ?k1_70 ?k2_70 ?_; (case k1_70 => k_asm); (case k2_70 => k_is); k_whole))
  k_with "o exec For Name Call cons nil" => (k_here; k_dflt (refine' For_rngG ?F_88 ?B_88 ?XB_88 ?TB_88 ?T0_88 ?c1_88 ?c2_88 ?_ ?c3_88 ?c4_88; (case F_88 => k_asm); (case B_88 => assumption); (case XB_88 => assumption); (case TB_88 => assumption); (case T0_88 => first | assumption | exact KtsTurn.refl); (case c1_88 => exact rfl); (case c2_88 => exact rfl); (case c3_88 => exact fun _ => rfl); (case c4_88 => passes_own)))
  k_with "o RngAt" => (k_here; refine stop_of ?_)
  k_with "o call builtin:len" => (k_here; (with_reducible show wpAny _ _ (call (Value.builtin _) [Value.ref _]) _ _ _); k_dflt (refine len_led (News.isList (by k_asm) (by with_reducible k_extra "k_mem")) (by (first | lia | omega)) ?_))
  k_with "o subscriptTail" => (k_here; (with_reducible show wpAny _ _ (subscriptTail _ _ (Value.ref _) (Value.int _ _)) _ _ _); k_dflt (refine' item_tupleT ?t_87 ?a_87 ?b_87 ?c_87 ?d_87 ?_; (case t_87 => exact News.isTup (by k_asm) (by with_reducible k_extra "k_mem")); (case a_87 => decide); (case b_87 => decide); (case c_87 => rfl); (case d_87 => rfl); k_whole))
  k_with "o subscriptTail" => (k_here; (with_reducible show wpAny _ _ (subscriptTail _ _ (Value.ref _) (Value.int (Int.ofNat _) _)) _ _ _); k_dflt (refine' item_lstI ?N_89 ?hm_89 ?hx_89 ?hz_89 ?_; (case N_89 => k_asm); (case hm_89 => with_reducible k_extra "k_mem"); (case hx_89 => assumption); (case hz_89 => first | exact Nat.le_of_ble_eq_true rfl | lia | omega)))
  k_with "o subscriptTail" => (k_here; (with_reducible show wpAny _ _ (subscriptTail _ _ (Value.ref _) (Value.int (Nat.cast _) _)) _ _ _); k_dflt (refine' item_lstI ?N_90 ?hm_90 ?hx_90 ?hz_90 ?_; (case N_90 => k_asm); (case hm_90 => with_reducible k_extra "k_mem"); (case hx_90 => assumption); (case hz_90 => first | exact Nat.le_of_ble_eq_true rfl | lia | omega)))
  k_with "o subscriptTail Name Slice ref ref" => (k_here; k_dflt (refine' from_lstI ?F_91 ?N_91 ?hm_91 ?hz_91 ?hw_91 ?_; (case F_91 => k_asm); (case N_91 => k_asm); (case hm_91 => with_reducible k_extra "k_mem"); (case hz_91 => first | exact Nat.le_of_ble_eq_true rfl | lia | omega); (case hw_91 => assumption)); intro _ _ _ _ l1; (try k_lt l1); (try (revert l1; intro _)); (try k_sweep))
  k_with "o call type:tuple" => (k_here; (with_reducible show wpAny _ _ (call (Value.type _) [Value.ref _]) _ _ _); k_dflt (refine' tupleOf_ys ?F_92 ?N_92 ?hm_92 ?hz_92 ?_; (case F_92 => k_asm); (case N_92 => k_asm); (case hm_92 => with_reducible k_extra "k_mem"); (case hz_92 => assumption); k_whole); intro _ _ _ _ l1; (try k_lt l1); (try (revert l1; intro _)); (try k_sweep))
  k_with "o compareOp NotEq ref ref" => (k_here; refine stop_of ?_)
  k_with "o compareOp NotEq ref ref" => (k_here; k_dflt (refine' ne_tups (n := 1) ?N_93 ?ha_93 ?hb_93 ?r_93 ?hu_93 ?_; (case N_93 => k_asm); (case ha_93 => with_reducible k_extra "k_mem"); (case hb_93 => with_reducible k_extra "k_mem"); (case hu_93 => ktr_units); (case r_93 => refine' ne_rows ?hx_93 ?hd_93 ?hy_93; (case hx_93 => k_extra "ktd_rel"); (case hd_93 => with_reducible k_extra "k_mem"); (case hy_93 => k_extra "ktd_rel"))))
  k_with "o call ref" => (k_here; (with_reducible show wpAny _ _ (call (Value.ref 253) _) _ _ _); refine stop_of ?_)
  k_with "o call ref" => (k_here; (with_reducible show wpAny _ _ (call (Value.ref 253) _) _ _ _); k_dflt (refine' Ctr.use (frame_told _ _ _ _ _ _ ?kc_76 ?kt_76 ?kn_76) ?k1_76 ?k2_76 ?k3_76 ?k4_76 ?k5_76 ?kK_76 ?kd_76 ?ku_76 ?_; (case k1_76 => k_asm); (case k2_76 => k_asm); (case k3_76 => k_asm); (case k4_76 => k_asm); (case k5_76 => k_asm); (case kK_76 => first | exact rfl | assumption); (case kd_76 => ktr_room); (case ku_76 => ktr_units); (case kc_76 => k_extra "ktd_rel"); (case kt_76 => first | k_extra "ktd_rel" | exact TagsAt.cons_ (by k_extra "ktd_rel") (by k_extra "ktd_rel")); (case kn_76 => (simp only [List.length_cons]; first | exact Nat.le_of_ble_eq_true rfl | lia | omega)); k_whole; intros; (try dsimp only); (try k_sweep); (try k_fold)))
  k_with "o call ref" => (k_here; (with_reducible show wpAny _ _ (call (Value.ref 345) _) _ _ _); refine stop_of ?_)
  k_with "o call ref" => (k_here; (with_reducible show wpAny _ _ (call (Value.ref 345) _) _ _ _); k_dflt (refine' Ctr.use (outer_vlan_ok _ _ _ _ _ _ _ ?kc_94 ?kt_94) ?k1_94 ?k2_94 ?k3_94 ?k4_94 ?k5_94 ?kK_94 ?kd_94 ?ku_94 ?_; (case k1_94 => k_asm); (case k2_94 => k_asm); (case k3_94 => k_asm); (case k4_94 => k_asm); (case k5_94 => k_asm); (case kK_94 => first | exact rfl | assumption); (case kd_94 => ktr_room); (case ku_94 => ktr_units); (case kc_94 => k_extra "ktd_rel"); (case kt_94 => k_extra "ktd_rel"); k_whole; intros; (try dsimp only); (try k_sweep); (try k_fold)))
  k_with "o call ref" => (k_here; (with_reducible show wpAny _ _ (call (Value.ref 352) _) _ _ _); refine stop_of ?_)
  k_with "o call ref" => (k_here; (with_reducible show wpAny _ _ (call (Value.ref 352) _) _ _ _); k_dflt (refine' Ctr.use (priority_of_ok _ _ _ _ _ _ _ ?kc_95 ?kt_95) ?k1_95 ?k2_95 ?k3_95 ?k4_95 ?k5_95 ?kK_95 ?kd_95 ?ku_95 ?_; (case k1_95 => k_asm); (case k2_95 => k_asm); (case k3_95 => k_asm); (case k4_95 => k_asm); (case k5_95 => k_asm); (case kK_95 => first | exact rfl | assumption); (case kd_95 => ktr_room); (case ku_95 => ktr_units); (case kc_95 => k_extra "ktd_rel"); (case kt_95 => k_extra "ktd_rel"); k_whole; intros; (try dsimp only); (try k_sweep); (try k_fold)))
  k_with "o call ref" => (k_here; (with_reducible show wpAny _ _ (call (Value.ref 418) _) _ _ _); refine stop_of ?_)
  k_with "o call ref" => (k_here; (with_reducible show wpAny _ _ (call (Value.ref 418) _) _ _ _); k_dflt (refine' Ctr.use (told_right_ok _ _ _ _ _ _ _ _ _ _ _ _ ?kf_96 ?kt_96 ?kr_96 ?ky_96 ?kn_96 _ _ _ _) ?k1_96 ?k2_96 ?k3_96 ?k4_96 ?k5_96 ?kK_96 ?kd_96 ?ku_96 ?_; (case k1_96 => k_asm); (case k2_96 => k_asm); (case k3_96 => k_asm); (case k4_96 => k_asm); (case k5_96 => k_asm); (case kK_96 => first | exact rfl | assumption); (case kd_96 => ktr_room); (case ku_96 => ktr_units); (case kf_96 => k_extra "ktd_rel"); (case kt_96 => k_extra "ktd_rel"); (case kr_96 => with_reducible k_extra "k_mem"); (case ky_96 => k_extra "ktd_rel"); (case kn_96 => first | exact Nat.le_of_ble_eq_true rfl | lia | omega); k_whole; intros; (try dsimp only); (try k_sweep); (try k_fold)))
  k_with "o call ref" => (k_here; (with_reducible show wpAny _ _ (call (Value.ref 338) _) _ _ _); refine stop_of ?_)
  k_with "o call ref" => (k_here; (with_reducible show wpAny _ _ (call (Value.ref 411) _) _ _ _); refine stop_of ?_)
  k_with "o call ref" => (k_here; (with_reducible show wpAny _ _ (call (Value.ref 411) _) _ _ _); k_dflt (refine' CtrS.use (bare_hit _ _ _ _ ?hf_97 _ _ _ _ _ _ _ _ _ _ ?ht_97 ?q1_97 ?q2_97 ?q3_97 ?p1_97 ?p2_97 ?p3_97) ?k1_97 ?k2_97 ?k3_97 ?k4_97 ?k5_97 ?XB_97 ?TB_97 ?D_97 ?T0_97 ?H1_97 ?H2_97 ?kK_97 ?kd_97 ?ku_97 ?_; (case k2_97 => k_asm); (case k1_97 => assumption); (case k3_97 => k_asm); (case k4_97 => k_asm); (case k5_97 => k_asm); (case XB_97 => assumption); (case TB_97 => assumption); (case D_97 => assumption); (case T0_97 => first | assumption | exact KtsTurn.refl); (case H1_97 => assumption); (case H2_97 => assumption); (case kK_97 => first | exact rfl | assumption); (case kd_97 => ktr_room); (case ku_97 => ktr_units); (case hf_97 => k_extra "ktd_rel"); (case ht_97 => with_reducible k_extra "k_mem"); (case q1_97 => with_reducible k_extra "k_mem"); (case q2_97 => with_reducible k_extra "k_mem"); (case q3_97 => with_reducible k_extra "k_mem"); (case p1_97 => assumption); (case p2_97 => assumption); (case p3_97 => assumption); k_whole; intros; (try dsimp only); (try k_fold)))
  intro pr loose mean mg mb dp un gd cn cs ad ccd cl outer A₀ base h₀ g₀ L m s Q E B F X N T XB TB D T0 H1 H2 hk hd' hu hret
  have hxl : xs.length = ts.length := ht.length
  have hyl : ys.length = ts.length := hy.length
  have hyl2 : (ys.map Value.ref).length = ts.length := by rw [List.length_map, hyl]
  k_steps
  unfold Stop
  rename_i g9 L9 hx9 FG9 F0 N0 X9 T9 D9 h9 k9 t9 u9 v9 hr9 F9 N9 hg9
  rw [hyl2] at hr9
  have sm : Builtin.Range.small 0 (ts.length : Int) 1 = true := small_one (by decide) (by decide) (by (first | lia | omega)) (by (first | lia | omega))
  have sz : Builtin.Range.rangeSize 0 (ts.length : Int) 1 = ((ts.length : Nat) : Int) := by rw [rangeSize_one]; split <;> (first | lia | omega)
  refine ⟨_, 0, _, 1, _, _, _, ts.length, _, news, g9, TakenJ w news xs _, rfl, rfl, GPS.of B' X9 T9 D9 KtsTurn.refl, F9, N9, hr9, sm, sz, ⟨x, f, _, [], take_set0 (a := Str.ofString "at") (b := Str.ofString "frame") rfl, rfl, hf⟩, ?_, ?_⟩
  · rintro i t g h tk I oI m₁ nw hi hoI G ⟨x1, f1, B1, tl, rfl, rfl, hf1⟩ F1 N1 off
    obtain ⟨T2, B2, X2, P2, K2⟩ := G
    rw [show (0 : Int) + (i : Int) * 1 = (i : Int) by (first | lia | omega)] at F1
    obtain ⟨x0, xr, ex, _, ex'⟩ := drop_at (l := xs) (i := i) (by (first | lia | omega))
    obtain ⟨y0, yr, ey, eyi, _⟩ := drop_at (l := ys) (i := i) (by (first | lia | omega))
    obtain ⟨t0, tr, et, eti, _⟩ := drop_at (l := ts) (i := i) hi
    have hT := ht.drop i
    rw [ex, et] at hT
    have hR := hy.drop i
    rw [ey, et] at hR
    have hd9 : (ys.map Value.ref).drop i = Value.ref y0 :: yr.map Value.ref := by rw [← List.map_drop, ey]; rfl
    have hi9 : (ys.map Value.ref)[i]? = some (Value.ref y0) := by simp [eyi]
    rw [ex] at hf1
    have hf2 := hf1
    obtain ⟨dx, tu0, a9, b9, c9, d9, e9, hx, hdx, htu⟩ := hf2
    have hT0 := hT.1
    have hT1 := hT.2
    have hR0 := hR.1
    have hR1 := hR.2
    have hl3 : tr.length ≤ 3 := by
      have := congrArg List.length et
      simp only [List.length_drop, List.length_cons] at this
      (first | lia | omega)
    have hxr : xr.length = tr.length := hT1.length
    have hz9 : (Value.ref y0 :: yr.map Value.ref).length ≤ 16384 := by
      have := hR1.length
      simp only [List.length_cons, List.length_map]; (first | lia | omega)
    clear F0 N0 hr9 F9 N9 hg9 F N
    k_steps
    all_goals try exact absurd rfl (by assumption)
    unfold Stop
    refine' Ctr.use (popped_ok w ((I, oI) :: (tl ++ news)) x1 f1 x0 xr ?kc (by (first | lia | omega))) ?k1 ?k2 ?k3 ?k4 ?k5 ?kK ?kd ?ku ?_
    (case kc => exact hf1.mono fun q hq => List.mem_cons_of_mem _ hq)
    (case k1 => k_asm)
    (case k2 => k_asm)
    (case k3 => k_asm)
    (case k4 => (refine' news_subX ?qn ?qml; (case qn => assumption); (case qml => (intro q9 hq9; with_reducible k_extra "k_mem"))))
    (case k5 => k_asm)
    (case kK => first | exact rfl | assumption)
    (case kd => ktr_room)
    (case ku => ktr_units)
    intro tl2 x2 tp2 hA2 hf2 h2 tk2 F2 N2
    clear F1 N1
    k_steps
    rename_i F5 N5
    refine' ForEnd.of (GPS.of B2 X2 P2 K2 T2) F5 (News.perm N5 ?_) ?_ ⟨x2, { f1 with tp := tp2 }, _, tl2 ++ tl, take_set (by decide) _ _ _ _ _, rfl, ?_⟩
    · k_extra "o sub9"
    · intro p hp
      rw [List.append_assoc] at hp
      rcases List.mem_append.mp hp with hp | hp
      · exact Nat.ne_of_gt (hA2 _ List.mem_cons_self p hp)
      · exact off p hp
    · rw [ex', List.append_assoc]
      exact hf2.dropX (by rw [hoI]; decide) (by rw [hoI]; decide) (by rw [hoI]; decide)
  · rintro g h tk m₁ nw G F1 N1 ⟨x1, f1, B1, tl, rfl, rfl, hf1⟩
    obtain ⟨T2, B2, X2, P2, K2⟩ := G
    rw [← hxl, List.drop_length] at hf1
    clear F0 N0 hr9 F9 N9 hg9 F N
    k_steps
    all_goals
      refine' hret _ _ _ ?qt ?qf (news_subX ?qn ?qml) ?qb ?qx ?qp ?qd
      (case qf => assumption)
      (case qn => assumption)
      (case qml => (intro q9 hq9; with_reducible k_extra "k_mem"))
      (case qt => assumption)
      (case qb => assumption)
      (case qx => assumption)
      (case qp => assumption)
      (case qd => assumption)
end
end
section
open PySem PySem.W PyProof.Rows PySem.Calls PySem.Spec
set_option maxRecDepth 100000
set_option maxHeartbeats 4000000
section
theorem pack_frame_x5 (w : World) (news : Led) (x : Addr) (f : FrameV) (xs : List Addr) (hf : IsFrm w news x f xs) (hn : xs.length = 5) :
    CtrX w 288 20 240 [.ref x] news 56 := by
  k_with_none
  w_top off
  k_with "k_mem" => first | assumption | exact List.mem_cons_self | (refine List.mem_cons_of_mem _ ?_; k_extra "k_mem") | (refine List.mem_append_right _ ?_; k_extra "k_mem") | (refine List.mem_append_left _ ?_; k_extra "k_mem")
  k_with "k_all" => assumption
  k_with "ktr_room" => ((try simp only [depth_under_make, depth_under_kw, depth_in1, depth_deeper, depth_caller]); (try dsimp only [ktrTop]); first | exact room0 (by with_reducible assumption) | exact room1 (by with_reducible assumption) rfl | exact room2 (by with_reducible assumption) rfl | exact room3 (by with_reducible assumption) rfl | exact Nat.le_of_ble_eq_true rfl | omega)
  k_with "k_room" => ktr_room
  k_with "ktr_units" => ((try simp only [units_in1, units_deeper, Around.mark_units, units_caller]); (try dsimp only [ktrTop]); first | exact room0 (by with_reducible assumption) | exact room1 (by with_reducible assumption) rfl | exact room2 (by with_reducible assumption) rfl | exact room3 (by with_reducible assumption) rfl | exact Nat.le_of_ble_eq_true rfl | ((have hcL9 := cLine_is); omega))
  k_with "k_enter" => (refine' code_defC ?k1_20 ?k2_20 ?k3_20 ?k4_20 ?k5_20 ?kA_20 ?kF_20 ?kK_20 ?k6_20 ?k7_20 ?k8_20 ?k9_20 ?kB_20 ?kD_20 ?_ ?c2_20 ?c3_20 ?c4_20; (case kA_20 => exact rfl); (case kF_20 => exact rfl); (case kK_20 => first | exact rfl | assumption); (case k1_20 => k_asm); (case k2_20 => k_asm); (case k3_20 => k_asm); (case k4_20 => k_asm); (case k5_20 => k_asm); (case k6_20 => k_is); (case k7_20 => k_is); (case k8_20 => k_room); (case k9_20 => first | exact BindsTo.of_eq rfl | exact binds_K (by k_in) rfl (by k_is) rfl rfl rfl | fail "k_enter: no rule for these arguments"); (case kB_20 => exact rfl); (case kD_20 => decide +kernel); (case c2_20 => exact rfl); (case c3_20 => exact rfl); (case c4_20 => exact rfl); k_whole; intro _ _ _ _ _ _ _ N' Y' B' _ _ l1; (try k_lt l1); k_cells Y'; (try simp only [List.cons_append, List.nil_append] at N'); (try dsimp only); (try k_lift B'); (try k_fold))
  k_with "k_enter" => (refine' code_def ?k1_0 ?k2_0 ?k3_0 ?k4_0 ?k5_0 ?kA_0 ?kF_0 ?kK_0 ?k6_0 ?k7_0 ?k8_0 ?k9_0 ?kB_0 ?_ ?c2_0 ?c3_0 ?c4_0 ?c5_0; (case kA_0 => exact rfl); (case kF_0 => exact rfl); (case kK_0 => first | exact rfl | assumption); (case k1_0 => k_asm); (case k2_0 => k_asm); (case k3_0 => k_asm); (case k4_0 => k_asm); (case k5_0 => k_asm); (case k6_0 => k_is); (case k7_0 => k_is); (case k8_0 => k_room); (case k9_0 => first | exact BindsTo.of_eq rfl | exact binds_K (by k_in) rfl (by k_is) rfl rfl rfl | fail "k_enter: no rule for these arguments"); (case c5_0 => decide); (case kB_0 => exact locs rfl); (case c2_0 => exact rfl); (case c3_0 => exact rfl); (case c4_0 => exact rfl); k_whole; intro _ _ _ _ _ _ B' _ _; (try dsimp only); (try k_lift B'); (try k_fold))
  k_with "o call type:tuple" => (k_here; (with_reducible show wpAny _ _ (call (Value.type _) [Value.ref _]) _ _ _); k_dflt (refine call_tuple_tup (News.isTup (by k_asm) (by k_extra "k_mem")) ?_))
  k_with "o call type:bytes" => (k_here; (with_reducible show wpAny _ _ (call (Value.type _) [Value.bytes _ _]) _ _ _); refine call_bytes_same ?_)
  k_with "o call type:tuple" => (k_here; (with_reducible show wpAny _ _ (call (Value.type _) [Value.ref _]) _ _ _); k_dflt (refine' tupleOf_ys ?F_18 ?N_18 ?hm_18 ?hz_18 ?_; (case F_18 => k_asm); (case N_18 => k_asm); (case hm_18 => k_extra "k_mem"); (case hz_18 => first | assumption | exact Nat.le_of_ble_eq_true rfl); k_whole); intro _ _ _ _ l1; (try k_lt l1); (try (revert l1; intro _)); (try k_sweep))
  k_with "o compareOp Eq ref ref" => (k_here; (with_reducible show wpAny _ _ (compareOp _ (Value.ref _) (Value.ref _)) _ _ _); k_dflt (refine' eq_tups_nil (by k_asm) ?ka_8 (by k_extra "k_mem") (by ktr_units) ?_; (case ka_8 => k_extra "k_mem")); (try simp only [reduceCtorEq, decide_false, decide_true, Bool.not_false, Bool.not_true]))
  k_with "o compareOp NotEq ref ref" => (k_here; (with_reducible show wpAny _ _ (compareOp _ (Value.ref _) (Value.ref _)) _ _ _); k_dflt (refine' ne_tups_nil (by k_asm) ?ka_9 (by k_extra "k_mem") (by ktr_units) ?_; (case ka_9 => k_extra "k_mem")); (try simp only [reduceCtorEq, decide_false, decide_true, Bool.not_false, Bool.not_true]))
  k_with "o subscriptTail" => (k_here; (with_reducible show wpAny _ _ (subscriptTail _ _ (Value.ref _) (Value.int 0 _)) _ _ _); k_dflt (refine item_ledT0 (News.isTup (by k_asm) (by k_extra "k_mem")) ?_))
  k_with "o subscriptTail" => (k_here; (with_reducible show wpAny _ _ (subscriptTail _ _ (Value.ref _) (Value.ref _)) _ _ _); k_dflt (refine' from_ledT1 ?F_10 ?N_10 ?ht_10 ?hz_10 ?_; (case F_10 => k_asm); (case N_10 => k_asm); (case ht_10 => k_extra "k_mem"); (case hz_10 => first | assumption | (simp only [List.length_map]; first | exact Nat.le_of_ble_eq_true rfl | omega))); intro _ _ _ _ l1; (try k_lt l1); (try (revert l1; intro _)); (try k_sweep))
  k_with "o binaryOp Add ref ref" => (k_here; (with_reducible show wpAny _ _ (binaryOp _ (Value.ref _) (Value.ref _)) _ _ _); k_dflt (refine' add_ledTm ?F_32 ?N_32 ?ht_32 ?hb_32 ?hz_32 ?_; (case F_32 => k_asm); (case N_32 => k_asm); (case ht_32 => k_extra "k_mem"); (case hb_32 => k_extra "k_mem"); (case hz_32 => (simp only [List.length_map, List.length_nil]; first | exact Nat.le_of_ble_eq_true rfl | omega))); intro _ _ _ _ _ _ _; (try k_sweep))
  k_with "o binaryOp Add ref ref" => (k_here; (with_reducible show wpAny _ _ (binaryOp _ (Value.ref _) (Value.ref _)) _ _ _); k_dflt (refine' add_ledT1 ?F_11 ?N_11 ?ht_11 ?hb_11 ?hz_11 ?_; (case F_11 => k_asm); (case N_11 => k_asm); (case ht_11 => k_extra "k_mem"); (case hb_11 => k_extra "k_mem"); (case hz_11 => (simp only [List.length_map, List.length_nil]; first | exact Nat.le_of_ble_eq_true rfl | omega))); intro _ _ _ _ l1; (try k_lt l1); (try (revert l1; intro _)); (try k_sweep))
  k_with "o binaryOp Add ref ref" => (k_here; (with_reducible show wpAny _ _ (binaryOp _ (Value.ref _) (Value.ref _)) _ _ _); k_dflt (refine' add_ledT0 ?F_12 ?N_12 ?ht_12 ?hb_12 ?hz_12 ?_; (case F_12 => k_asm); (case N_12 => k_asm); (case ht_12 => k_extra "k_mem"); (case hb_12 => k_extra "k_mem"); (case hz_12 => (simp only [List.length_map, List.length_nil]; first | exact Nat.le_of_ble_eq_true rfl | omega))))
  k_with "tbn_conj" => first | exact abv_nil | assumption | exact abv_one (by assumption) | (refine abv_next (by first | assumption | exact And.left (by assumption) | omega) ?_; k_extra "tbn_conj") | exact abv_oneA (by first | assumption | exact And.right (by assumption) | exact And.right (And.right (by assumption))) | (refine abv_all (by assumption) ?_; k_extra "tbn_conj") | (refine abv_allA (by first | assumption | exact And.right (by assumption) | exact And.right (And.right (by assumption))) ?_; k_extra "tbn_conj") | (refine abv_allS (by assumption) (by simp only [List.cons_append, List.append_assoc, List.nil_append]) ?_; k_extra "tbn_conj") | (refine abv_app ?_ ?_ <;> k_extra "tbn_conj")
  k_with "o mem9" => (with_reducible first | exact List.mem_cons_self | (refine List.mem_cons_of_mem _ ?_; k_extra "o mem9") | (refine List.mem_append_right _ ?_; k_extra "o mem9") | (refine List.mem_append_left _ ?_; k_extra "o mem9") | assumption)
  k_with "o subv" => (with_reducible first | exact sub_rfl | exact sub_le | (refine sub_tl ?_; k_extra "o subv") | (refine sub_ri ?_; k_extra "o subv") | (refine sub_lf ?_; k_extra "o subv"))
  k_with "o sub9" => first | k_extra "o subv" | exact sub_nil | ((with_reducible refine sub_cons ?_ ?_); (k_extra "o mem9"); k_extra "o sub9") | ((with_reducible refine sub_app ?_ ?_); k_extra "o sub9"; k_extra "o sub9")
  k_with "ktd_rel" => first | with_reducible assumption | ((with_reducible refine IsFrm.mono ?_ (by with_reducible assumption)); k_extra "o sub9") | ((with_reducible refine IsTag.mono ?_ (by with_reducible assumption)); k_extra "o sub9") | ((with_reducible refine TagsAt.mono ?_ (by with_reducible assumption)); k_extra "o sub9") | ((with_reducible refine RowsAt.mono ?_ (by with_reducible assumption)); k_extra "o sub9") | ((with_reducible refine' IsFrm.of ?q1_39 ?q2_39 ?q3_39); (case q1_39 => k_extra "k_mem"); (case q2_39 => k_extra "k_mem"); (case q3_39 => k_extra "k_mem")) | ((with_reducible refine' IsTag.of ?q1_39 ?q2_39); (case q1_39 => k_extra "k_mem"); (case q2_39 => k_extra "k_mem"))
  k_with "k_all" => first | (refine' allNe_of ?h1_67 ?h2_67; (case h1_67 => assumption); (case h2_67 => first | exact Nat.le_refl _ | exact Nat.le_succ _ | omega)) | (refine' allNe_ofA ?h1_67 ?h2_67; (case h1_67 => assumption); (case h2_67 => first | exact Nat.le_refl _ | exact Nat.le_succ _ | omega)) | (refine' allNe_ofA1 ?h1_67 ?h2_67; (case h1_67 => assumption); (case h2_67 => first | exact Nat.le_refl _ | exact Nat.le_succ _ | omega)) | (refine' allNe_ofA2 ?h1_67 ?h2_67; (case h1_67 => assumption); (case h2_67 => first | exact Nat.le_refl _ | exact Nat.le_succ _ | omega))
  k_with "o exec Raise some none" => (k_here; k_dflt (refine raise_own rfl ?_))
  k_with "o RaiseEnd" => ((with_reducible show RaiseEnd _ _ _ _); first | (refine' RaiseEnd.of (C := 44) (fI := 28) (excMakes_of ?X_51 ?q_51) ?he_51 ?hc_51 ?hd_51 ?h1_51 ?_; (case X_51 => exact Frag.In.keeps (by k_asm) (Fr.keep (by k_asm))); (case q_51 => exact rfl); (case he_51 => exact News.get (by k_asm) List.mem_cons_self); (case hc_51 => exact rfl); (case hd_51 => exact rfl); (case h1_51 => exact rfl); (try dsimp only)) | (refine' RaiseEnd.of (C := 56) (fI := 28) (excMakes_of ?X_51 ?q_51) ?he_51 ?hc_51 ?hd_51 ?h1_51 ?_; (case X_51 => exact Frag.In.keeps (by k_asm) (Fr.keep (by k_asm))); (case q_51 => exact rfl); (case he_51 => exact News.get (by k_asm) List.mem_cons_self); (case hc_51 => exact rfl); (case hd_51 => exact rfl); (case h1_51 => exact rfl); (try dsimp only)))
  k_with "o leaving ref" => (k_here; first | (k_dflt (refine' pass_ownS ?hf_52 ?K_52 ?F_52 ?R_52 ?U_52 ?_; (case R_52 => assumption); (case hf_52 => rfl); (case K_52 => assumption); (case F_52 => assumption); (case U_52 => assumption); k_whole); intro _ _ _) | (k_dflt (refine' leave_ownS ?hf_52 ?hk_52 ?K_52 ?F_52 ?N_52 ?off_52 ?hd_52 ?h1_52 ?h0_52 ?_; (case hf_52 => rfl); (case hk_52 => rfl); (case F_52 => assumption); (case N_52 => assumption); (case K_52 => assumption); (case hd_52 => rfl); (case h1_52 => rfl); (case h0_52 => rfl); (case off_52 => k_all); k_whole); intro _ _ _))
  k_with "o call ref" => (k_here; (with_reducible show wpAny _ _ (call (Value.ref 56) _) _ _ _); refine stop_of ?_)
  k_with "o call ref" => (k_here; (with_reducible show wpAny _ _ (call (Value.ref 56) _) _ _ _); k_dflt (refine' Ctr.use (size_error _ _ _ _) ?k1_54 ?k2_54 ?k3_54 ?k4_54 ?k5_54 ?kK_54 ?kd_54 ?ku_54 ?_; (case k1_54 => k_asm); (case k2_54 => k_asm); (case k3_54 => k_asm); (case k4_54 => k_asm); (case k5_54 => k_asm); (case kK_54 => first | exact rfl | assumption); (case kd_54 => ktr_room); (case ku_54 => ktr_units); k_whole; intros; (try dsimp only); (try k_sweep); (try k_fold)))
  k_with "o call builtin:len" => (k_here; (with_reducible show wpAny _ _ (call (Value.builtin "len") [Value.bytes _ _]) _ _ _); (refine KBw.len_K (by assumption) (by first | omega | (simp only [List.length_append, putL_length, flat_length, List.length_nil]; first | exact Nat.le_of_ble_eq_true rfl | omega)) ?_); (try simp only [List.length_append, putL_length, flat_length, List.length_nil]))
  k_with "o call type:bytes" => (k_here; (with_reducible show wpAny _ _ (call (Value.type "bytes") [Value.int _ _]) _ _ _); refine call_bytes_z (by omega) ?_; intro _ _)
  k_with "o call builtin:len" => (k_here; (with_reducible show wpAny _ _ (call (Value.builtin _) [Value.ref _]) _ _ _); k_dflt (refine len_ledT (News.isTup (by k_asm) (by k_extra "k_mem")) (by omega) ?_))
  k_with "o compareOp NotIn int ref" => (k_here; (with_reducible show wpAny _ _ (compareOp _ (Value.int _ _) (Value.ref 206)) _ _ _); k_dflt (refine' kinds_notin ?F_98 ?X_98 ?_; (case F_98 => k_asm); (case X_98 => k_asm)); (first | rw [decide_eq_true (by assumption)] | rw [decide_eq_false (by omega)]); (try simp only [Bool.not_true, Bool.not_false]))
  k_with "o compareOp In int ref" => (k_here; (with_reducible show wpAny _ _ (compareOp _ (Value.int _ _) (Value.ref 206)) _ _ _); k_dflt (refine' kinds_in ?F_99 ?X_99 ?_; (case F_99 => k_asm); (case X_99 => k_asm)); (first | rw [decide_eq_true (by assumption)] | rw [decide_eq_false (by omega)]); (try simp only [Bool.not_true, Bool.not_false]))
  obtain ⟨dx, tu0, a, b, c, d, e, hx, hdx, htu⟩ := hf
  have hxs : (xs.map Value.ref).length = 5 := by rw [List.length_map, hn]
  intro p loose mean mg mb dp un gd cn cs ad ccd cl outer A₀ base h₀ L m s Q E B F X N T hk hd' hu hret
  k_steps
  all_goals
    refine' hret _ _ _ _ ?e1 (RaisedSN.sub ?e2 ?e3) ?e4
    (case e2 => assumption)
    (case e1 => assumption)
    (case e4 => assumption)
    (case e3 => first | exact fun q hq => hq | (intro q9 hq9; simp only [List.mem_cons, List.mem_append]; simp only [hq9, or_true]))
theorem pack_tag_x (w : World) (news : Led) (x0 : Addr) (t : TagV) (ht : IsTag w news x0 t) (hb : (¬ (t.k = 33024 ∨ t.k = 34984)) ∨ ((t.k = 33024 ∨ t.k = 34984) ∧ (t.p < 0 ∨ (0 ≤ t.p ∧ 7 < t.p))) ∨ ((t.k = 33024 ∨ t.k = 34984) ∧ (0 ≤ t.p ∧ t.p ≤ 7) ∧ (t.v < 0 ∨ (0 ≤ t.v ∧ 4095 ≤ t.v)))) :
    CtrX w 275 20 240 [.ref x0] news 56 := by
  w_top off
  obtain ⟨dt, ta, tb, tc, te, hx0, hdt⟩ := ht
  intro p loose mean mg mb dp un gd cn cs ad ccd cl outer A₀ base h₀ L m s Q E B F X N T hk hd' hu hret
  rcases hb with h1 | ⟨h1, h2 | ⟨h2, h3⟩⟩ | ⟨h1, ⟨h2, h3⟩, h4 | ⟨h4, h5⟩⟩
  all_goals k_steps
  all_goals
    refine' hret _ _ _ _ ?e1 (RaisedSN.sub ?e2 ?e3) ?e4
    (case e2 => assumption)
    (case e1 => assumption)
    (case e4 => assumption)
    (case e3 => first | exact fun q hq => hq | (intro q9 hq9; simp only [List.mem_cons, List.mem_append]; simp only [hq9, or_true]))
end
end
section
open PySem PySem.W PyProof.Rows PySem.Calls PySem.Spec
set_option maxRecDepth 100000
set_option maxHeartbeats 4000000
theorem ListComp_xG {prog : Program} {w : World} {A₀ : Around} {E : Value → Shared → Prop} {s : Shared} {L : Addr} {m : Str → Option Value} {env : Env} {base g : Heap} {outer : List Env} {elt iter : PySem.Expr} {x : Str} {px : Pos} {scope : Scope} {cl : List (Str × Addr)} {pos : Pos} {Q : Value → Shared → Prop}
    (K : Below A₀ base outer g) (_F : Fr g L s.heap m) (hf : env.frame = some L)
    (hclos : closureFor scope env = pure cl) (hcell : ∀ y ∈ scope.names, y.2 ≠ .cell) (hkind : scope.kind = .function)
    (hnames : ∀ y ∈ scope.names, y.2 = .local → scope.names.lookup y.1 = some .local) (hx : scope.names.lookup x = some .local)
    (h : wpAny (model prog w) (A₀.deeper env) (eval iter env) (XSrc prog w (A₀.deeper env) E base g outer L m env elt x scope cl) E s)
    (hs : ∀ x, foldedSetIterable iter env x = pure x) :
    wpAny (model prog w) (A₀.deeper env) (eval (.ListComp elt [⟨.Name x px, iter, [], 0⟩] scope pos) env) Q E s :=
  ListComp_x base g outer (Around.frames_deeper K.stack) hf hclos hcell hkind hnames hx h hs
section
theorem pack_frame_x1 (w : World) (news : Led) (x y : Addr) (tt tsr tk tp : Tok) (pb : Array UInt8) (hf : IsFrm w news x (fv tt tsr tk tp pb) [y]) (t : TagV) (ht : IsTag w news y t) (hb : (¬ (t.k = 33024 ∨ t.k = 34984)) ∨ ((t.k = 33024 ∨ t.k = 34984) ∧ (t.p < 0 ∨ (0 ≤ t.p ∧ 7 < t.p))) ∨ ((t.k = 33024 ∨ t.k = 34984) ∧ (0 ≤ t.p ∧ t.p ≤ 7) ∧ (t.v < 0 ∨ (0 ≤ t.v ∧ 4095 ≤ t.v)))) :
    CtrX w 288 30 340 [.ref x] news 56 := by
  k_with_none
  w_top off
  k_with "k_mem" => first | assumption | exact List.mem_cons_self | (refine List.mem_cons_of_mem _ ?_; k_extra "k_mem") | (refine List.mem_append_right _ ?_; k_extra "k_mem") | (refine List.mem_append_left _ ?_; k_extra "k_mem")
  k_with "k_all" => assumption
  k_with "ktr_room" => ((try simp only [depth_under_make, depth_under_kw, depth_in1, depth_deeper, depth_caller]); (try dsimp only [ktrTop]); first | exact room0 (by with_reducible assumption) | exact room1 (by with_reducible assumption) rfl | exact room2 (by with_reducible assumption) rfl | exact room3 (by with_reducible assumption) rfl | exact Nat.le_of_ble_eq_true rfl | omega)
  k_with "k_room" => ktr_room
  k_with "ktr_units" => ((try simp only [units_in1, units_deeper, Around.mark_units, units_caller]); (try dsimp only [ktrTop]); first | exact room0 (by with_reducible assumption) | exact room1 (by with_reducible assumption) rfl | exact room2 (by with_reducible assumption) rfl | exact room3 (by with_reducible assumption) rfl | exact Nat.le_of_ble_eq_true rfl | ((have hcL9 := cLine_is); omega))
  k_with "k_enter" => (refine' code_defC ?k1_20 ?k2_20 ?k3_20 ?k4_20 ?k5_20 ?kA_20 ?kF_20 ?kK_20 ?k6_20 ?k7_20 ?k8_20 ?k9_20 ?kB_20 ?kD_20 ?_ ?c2_20 ?c3_20 ?c4_20; (case kA_20 => exact rfl); (case kF_20 => exact rfl); (case kK_20 => first | exact rfl | assumption); (case k1_20 => k_asm); (case k2_20 => k_asm); (case k3_20 => k_asm); (case k4_20 => k_asm); (case k5_20 => k_asm); (case k6_20 => k_is); (case k7_20 => k_is); (case k8_20 => k_room); (case k9_20 => first | exact BindsTo.of_eq rfl | exact binds_K (by k_in) rfl (by k_is) rfl rfl rfl | fail "k_enter: no rule for these arguments"); (case kB_20 => exact rfl); (case kD_20 => decide +kernel); (case c2_20 => exact rfl); (case c3_20 => exact rfl); (case c4_20 => exact rfl); k_whole; intro _ _ _ _ _ _ _ N' Y' B' _ _ l1; (try k_lt l1); k_cells Y'; (try simp only [List.cons_append, List.nil_append] at N'); (try dsimp only); (try k_lift B'); (try k_fold))
  k_with "k_enter" => (refine' code_def ?k1_0 ?k2_0 ?k3_0 ?k4_0 ?k5_0 ?kA_0 ?kF_0 ?kK_0 ?k6_0 ?k7_0 ?k8_0 ?k9_0 ?kB_0 ?_ ?c2_0 ?c3_0 ?c4_0 ?c5_0; (case kA_0 => exact rfl); (case kF_0 => exact rfl); (case kK_0 => first | exact rfl | assumption); (case k1_0 => k_asm); (case k2_0 => k_asm); (case k3_0 => k_asm); (case k4_0 => k_asm); (case k5_0 => k_asm); (case k6_0 => k_is); (case k7_0 => k_is); (case k8_0 => k_room); (case k9_0 => first | exact BindsTo.of_eq rfl | exact binds_K (by k_in) rfl (by k_is) rfl rfl rfl | fail "k_enter: no rule for these arguments"); (case c5_0 => decide); (case kB_0 => exact locs rfl); (case c2_0 => exact rfl); (case c3_0 => exact rfl); (case c4_0 => exact rfl); k_whole; intro _ _ _ _ _ _ B' _ _; (try dsimp only); (try k_lift B'); (try k_fold))
  k_with "o call type:tuple" => (k_here; (with_reducible show wpAny _ _ (call (Value.type _) [Value.ref _]) _ _ _); k_dflt (refine call_tuple_tup (News.isTup (by k_asm) (by k_extra "k_mem")) ?_))
  k_with "o call type:bytes" => (k_here; (with_reducible show wpAny _ _ (call (Value.type _) [Value.bytes _ _]) _ _ _); refine call_bytes_same ?_)
  k_with "o call type:tuple" => (k_here; (with_reducible show wpAny _ _ (call (Value.type _) [Value.ref _]) _ _ _); k_dflt (refine' tupleOf_ys ?F_18 ?N_18 ?hm_18 ?hz_18 ?_; (case F_18 => k_asm); (case N_18 => k_asm); (case hm_18 => k_extra "k_mem"); (case hz_18 => first | assumption | exact Nat.le_of_ble_eq_true rfl); k_whole); intro _ _ _ _ l1; (try k_lt l1); (try (revert l1; intro _)); (try k_sweep))
  k_with "o compareOp Eq ref ref" => (k_here; (with_reducible show wpAny _ _ (compareOp _ (Value.ref _) (Value.ref _)) _ _ _); k_dflt (refine' eq_tups_nil (by k_asm) ?ka_8 (by k_extra "k_mem") (by ktr_units) ?_; (case ka_8 => k_extra "k_mem")); (try simp only [reduceCtorEq, decide_false, decide_true, Bool.not_false, Bool.not_true]))
  k_with "o compareOp NotEq ref ref" => (k_here; (with_reducible show wpAny _ _ (compareOp _ (Value.ref _) (Value.ref _)) _ _ _); k_dflt (refine' ne_tups_nil (by k_asm) ?ka_9 (by k_extra "k_mem") (by ktr_units) ?_; (case ka_9 => k_extra "k_mem")); (try simp only [reduceCtorEq, decide_false, decide_true, Bool.not_false, Bool.not_true]))
  k_with "o subscriptTail" => (k_here; (with_reducible show wpAny _ _ (subscriptTail _ _ (Value.ref _) (Value.int 0 _)) _ _ _); k_dflt (refine item_ledT0 (News.isTup (by k_asm) (by k_extra "k_mem")) ?_))
  k_with "o subscriptTail" => (k_here; (with_reducible show wpAny _ _ (subscriptTail _ _ (Value.ref _) (Value.ref _)) _ _ _); k_dflt (refine' from_ledT1 ?F_10 ?N_10 ?ht_10 ?hz_10 ?_; (case F_10 => k_asm); (case N_10 => k_asm); (case ht_10 => k_extra "k_mem"); (case hz_10 => first | assumption | (simp only [List.length_map]; first | exact Nat.le_of_ble_eq_true rfl | omega))); intro _ _ _ _ l1; (try k_lt l1); (try (revert l1; intro _)); (try k_sweep))
  k_with "o binaryOp Add ref ref" => (k_here; (with_reducible show wpAny _ _ (binaryOp _ (Value.ref _) (Value.ref _)) _ _ _); k_dflt (refine' add_ledTm ?F_32 ?N_32 ?ht_32 ?hb_32 ?hz_32 ?_; (case F_32 => k_asm); (case N_32 => k_asm); (case ht_32 => k_extra "k_mem"); (case hb_32 => k_extra "k_mem"); (case hz_32 => (simp only [List.length_map, List.length_nil]; first | exact Nat.le_of_ble_eq_true rfl | omega))); intro _ _ _ _ _ _ _; (try k_sweep))
  k_with "o binaryOp Add ref ref" => (k_here; (with_reducible show wpAny _ _ (binaryOp _ (Value.ref _) (Value.ref _)) _ _ _); k_dflt (refine' add_ledT1 ?F_11 ?N_11 ?ht_11 ?hb_11 ?hz_11 ?_; (case F_11 => k_asm); (case N_11 => k_asm); (case ht_11 => k_extra "k_mem"); (case hb_11 => k_extra "k_mem"); (case hz_11 => (simp only [List.length_map, List.length_nil]; first | exact Nat.le_of_ble_eq_true rfl | omega))); intro _ _ _ _ l1; (try k_lt l1); (try (revert l1; intro _)); (try k_sweep))
  k_with "o binaryOp Add ref ref" => (k_here; (with_reducible show wpAny _ _ (binaryOp _ (Value.ref _) (Value.ref _)) _ _ _); k_dflt (refine' add_ledT0 ?F_12 ?N_12 ?ht_12 ?hb_12 ?hz_12 ?_; (case F_12 => k_asm); (case N_12 => k_asm); (case ht_12 => k_extra "k_mem"); (case hb_12 => k_extra "k_mem"); (case hz_12 => (simp only [List.length_map, List.length_nil]; first | exact Nat.le_of_ble_eq_true rfl | omega))))
  k_with "tbn_conj" => first | exact abv_nil | assumption | exact abv_one (by assumption) | (refine abv_next (by first | assumption | exact And.left (by assumption) | omega) ?_; k_extra "tbn_conj") | exact abv_oneA (by first | assumption | exact And.right (by assumption) | exact And.right (And.right (by assumption))) | (refine abv_all (by assumption) ?_; k_extra "tbn_conj") | (refine abv_allA (by first | assumption | exact And.right (by assumption) | exact And.right (And.right (by assumption))) ?_; k_extra "tbn_conj") | (refine abv_allS (by assumption) (by simp only [List.cons_append, List.append_assoc, List.nil_append]) ?_; k_extra "tbn_conj") | (refine abv_app ?_ ?_ <;> k_extra "tbn_conj")
  k_with "o mem9" => (with_reducible first | exact List.mem_cons_self | (refine List.mem_cons_of_mem _ ?_; k_extra "o mem9") | (refine List.mem_append_right _ ?_; k_extra "o mem9") | (refine List.mem_append_left _ ?_; k_extra "o mem9") | assumption)
  k_with "o subv" => (with_reducible first | exact sub_rfl | exact sub_le | (refine sub_tl ?_; k_extra "o subv") | (refine sub_ri ?_; k_extra "o subv") | (refine sub_lf ?_; k_extra "o subv"))
  k_with "o sub9" => first | k_extra "o subv" | exact sub_nil | ((with_reducible refine sub_cons ?_ ?_); (k_extra "o mem9"); k_extra "o sub9") | ((with_reducible refine sub_app ?_ ?_); k_extra "o sub9"; k_extra "o sub9")
  k_with "ktd_rel" => first | with_reducible assumption | ((with_reducible refine IsFrm.mono ?_ (by with_reducible assumption)); k_extra "o sub9") | ((with_reducible refine IsTag.mono ?_ (by with_reducible assumption)); k_extra "o sub9") | ((with_reducible refine TagsAt.mono ?_ (by with_reducible assumption)); k_extra "o sub9") | ((with_reducible refine RowsAt.mono ?_ (by with_reducible assumption)); k_extra "o sub9") | ((with_reducible refine' IsFrm.of ?q1_39 ?q2_39 ?q3_39); (case q1_39 => k_extra "k_mem"); (case q2_39 => k_extra "k_mem"); (case q3_39 => k_extra "k_mem")) | ((with_reducible refine' IsTag.of ?q1_39 ?q2_39); (case q1_39 => k_extra "k_mem"); (case q2_39 => k_extra "k_mem"))
  k_with "k_all" => first | (refine' allNe_of ?h1_67 ?h2_67; (case h1_67 => assumption); (case h2_67 => first | exact Nat.le_refl _ | exact Nat.le_succ _ | omega)) | (refine' allNe_ofA ?h1_67 ?h2_67; (case h1_67 => assumption); (case h2_67 => first | exact Nat.le_refl _ | exact Nat.le_succ _ | omega)) | (refine' allNe_ofA1 ?h1_67 ?h2_67; (case h1_67 => assumption); (case h2_67 => first | exact Nat.le_refl _ | exact Nat.le_succ _ | omega)) | (refine' allNe_ofA2 ?h1_67 ?h2_67; (case h1_67 => assumption); (case h2_67 => first | exact Nat.le_refl _ | exact Nat.le_succ _ | omega))
  k_with "o exec Raise some none" => (k_here; k_dflt (refine raise_own rfl ?_))
  k_with "o RaiseEnd" => ((with_reducible show RaiseEnd _ _ _ _); first | (refine' RaiseEnd.of (C := 44) (fI := 28) (excMakes_of ?X_51 ?q_51) ?he_51 ?hc_51 ?hd_51 ?h1_51 ?_; (case X_51 => exact Frag.In.keeps (by k_asm) (Fr.keep (by k_asm))); (case q_51 => exact rfl); (case he_51 => exact News.get (by k_asm) List.mem_cons_self); (case hc_51 => exact rfl); (case hd_51 => exact rfl); (case h1_51 => exact rfl); (try dsimp only)) | (refine' RaiseEnd.of (C := 56) (fI := 28) (excMakes_of ?X_51 ?q_51) ?he_51 ?hc_51 ?hd_51 ?h1_51 ?_; (case X_51 => exact Frag.In.keeps (by k_asm) (Fr.keep (by k_asm))); (case q_51 => exact rfl); (case he_51 => exact News.get (by k_asm) List.mem_cons_self); (case hc_51 => exact rfl); (case hd_51 => exact rfl); (case h1_51 => exact rfl); (try dsimp only)))
  k_with "o leaving ref" => (k_here; first | (k_dflt (refine' pass_ownS ?hf_52 ?K_52 ?F_52 ?R_52 ?U_52 ?_; (case R_52 => assumption); (case hf_52 => rfl); (case K_52 => assumption); (case F_52 => assumption); (case U_52 => assumption); k_whole); intro _ _ _) | (k_dflt (refine' leave_ownS ?hf_52 ?hk_52 ?K_52 ?F_52 ?N_52 ?off_52 ?hd_52 ?h1_52 ?h0_52 ?_; (case hf_52 => rfl); (case hk_52 => rfl); (case F_52 => assumption); (case N_52 => assumption); (case K_52 => assumption); (case hd_52 => rfl); (case h1_52 => rfl); (case h0_52 => rfl); (case off_52 => k_all); k_whole); intro _ _ _))
  k_with "o compareOp NotIn int ref" => (k_here; (with_reducible show wpAny _ _ (compareOp _ (Value.int _ _) (Value.ref 206)) _ _ _); k_dflt (refine' kinds_notin ?F_98 ?X_98 ?_; (case F_98 => k_asm); (case X_98 => k_asm)); (first | rw [decide_eq_true (by assumption)] | rw [decide_eq_false (by omega)]); (try simp only [Bool.not_true, Bool.not_false]))
  k_with "o compareOp In int ref" => (k_here; (with_reducible show wpAny _ _ (compareOp _ (Value.int _ _) (Value.ref 206)) _ _ _); k_dflt (refine' kinds_in ?F_99 ?X_99 ?_; (case F_99 => k_asm); (case X_99 => k_asm)); (first | rw [decide_eq_true (by assumption)] | rw [decide_eq_false (by omega)]); (try simp only [Bool.not_true, Bool.not_false]))
  k_with "o binaryOp Add bytes bytes" => (k_here; (with_reducible show wpAny _ _ (binaryOp Operator.Add (Value.bytes _ _) (Value.bytes _ _)) _ _ _); (refine KBa.add_K (by assumption) (by assumption) (by first | omega | (simp only [putL_length, List.length_append, List.length_nil, tagL_length, flat_length, sumL_length]; first | exact Nat.le_of_ble_eq_true rfl | omega)) ?_); intro _ _ _)
  k_with "o call builtin:len" => (k_here; (with_reducible show wpAny _ _ (call (Value.builtin "len") [Value.bytes _ _]) _ _ _); (refine KBw.len_K (by assumption) (by first | omega | (simp only [List.length_append, putL_length, flat_length, List.length_nil]; first | exact Nat.le_of_ble_eq_true rfl | omega)) ?_); (try simp only [List.length_append, putL_length, flat_length, List.length_nil]))
  k_with "o call type:bytes" => (k_here; (with_reducible show wpAny _ _ (call (Value.type "bytes") [Value.int _ _]) _ _ _); refine call_bytes_z (by omega) ?_; intro _ _)
  k_with "o call builtin:len" => (k_here; (with_reducible show wpAny _ _ (call (Value.builtin _) [Value.ref _]) _ _ _); k_dflt (refine len_ledT (News.isTup (by k_asm) (by k_extra "k_mem")) (by omega) ?_))
  k_with "o leaving ref" => (k_here; (k_dflt (refine' pass_anyS ?hf_100 ?K_100 ?F_100 ?R_100 ?U_100 ?_; (case R_100 => assumption); (case hf_100 => rfl); (case K_100 => assumption); (case F_100 => assumption); (case U_100 => assumption); k_whole); intro _ _ _))
  k_with "o call ref" => (k_here; (with_reducible show wpAny _ _ (call (Value.ref 170) _) _ _ _); refine stop_of ?_)
  k_with "o call ref" => (k_here; (with_reducible show wpAny _ _ (call (Value.ref 170) _) _ _ _); k_dflt (refine' Ctr.use (put_number6_ok _ _ _ _ _ ?c1_29 ?c2_29) ?k1_29 ?k2_29 ?k3_29 ?k4_29 ?k5_29 ?kK_29 ?kd_29 ?ku_29 ?_; (case k1_29 => k_asm); (case k2_29 => k_asm); (case k3_29 => k_asm); (case k4_29 => k_asm); (case k5_29 => k_asm); (case kK_29 => first | exact rfl | assumption); (case kd_29 => ktr_room); (case ku_29 => ktr_units); (case c1_29 => decide); (case c2_29 => decide); k_whole; intros; (try dsimp only); (try k_sweep); (try k_fold)))
  k_with "o call ref" => (k_here; (with_reducible show wpAny _ _ (call (Value.ref 275) _) _ _ _); refine stop_of ?_)
  k_with "o call ref" => (k_here; (with_reducible show wpAny _ _ (call (Value.ref 275) _) _ _ _); k_dflt (refine' CtrX.use (pack_tag_x _ _ _ _ ?c1_101 ?c2_101) ?k1_101 ?k2_101 ?k3_101 ?k4_101 ?k5_101 ?kK_101 ?kd_101 ?ku_101 ?_; (case k1_101 => k_asm); (case k2_101 => k_asm); (case k3_101 => k_asm); (case k4_101 => k_asm); (case k5_101 => k_asm); (case kK_101 => first | exact rfl | assumption); (case kd_101 => ktr_room); (case ku_101 => ktr_units); (case c1_101 => k_extra "ktd_rel"); (case c2_101 => assumption); k_whole; intro _ _ _ _ _ _ _; (try dsimp only)))
  k_with "o eval ListComp" => (k_here; k_dflt (refine' ListComp_xG ?K_102 ?F_102 ?hf_102 ?c1_102 ?c2_102 ?c3_102 ?c4_102 ?c5_102 ?_ ?c6_102; (case K_102 => assumption); (case F_102 => k_asm); (case hf_102 => exact rfl); (case c1_102 => exact rfl); (case c2_102 => decide); (case c3_102 => exact rfl); (case c4_102 => decide); (case c5_102 => exact rfl); (case c6_102 => exact fun _ => rfl)))
  k_with "o XSrc" => (k_here; refine stop_of ?_)
  k_with "o getMethod bytes" => (k_here; (with_reducible refine method_join ?_))
  obtain ⟨dx, tu0, a, b, c, d, e, hx, hdx, htu⟩ := hf
  have hb0 : KBw.bInts (#[] : Array UInt8) = [] := rfl
  have hxs : ([y].map Value.ref).length = 1 := rfl
  intro p loose mean mg mb dp un gd cn cs ad ccd cl outer A₀ base h₀ L m s Q E B F X N T hk hd' hu hret
  k_steps
  unfold Stop
  refine ⟨tu0, .ref y, [], news, .ref 56, rfl, rfl, by k_asm, by k_asm, htu, ?_, ?_⟩
  · intro h9 I oI C oC D m₂ tk9 E' hNs hx2 F2 N2 off hE'
    k_steps
    all_goals exact hE' _ _ _ _ (by assumption) (by assumption) (by assumption)
  · intro e h9 tk9 G9 FG9 R9 U9
    k_steps
    all_goals exact hret _ _ _ _ (by assumption) (by assumption) (by assumption)
end
end
section
open PySem PySem.W PyProof.Rows PySem.Calls PySem.Spec
set_option maxRecDepth 100000
set_option maxHeartbeats 4000000
section
theorem lam_pack5 (w : World) (news : Led) (f c1 c' x : Addr) (oc o1 : Obj) (vs : Array Value) (t : Tok) (ln qual : Str) (pm ctv : Value) (p1 p2 p3 p4 : Pos) (fv : FrameV) (xs : List Addr)
    (h1 : (f, kla_obj ln qual { posonlyargs := [], args := [], vararg := none, kwonlyargs := [], kw_defaults := [], kwarg := none, defaults := [] } (.Call (.Name (Str.ofString "pack_frame") p1) [.Name (Str.ofString "frame") p2] [] p3) { kind := .function, names := [(Str.ofString "frame", .free), (Str.ofString "pack_frame", .globalImplicit)], isGenerator := false, isCoroutine := false } [(Str.ofString "frame", c1)] pm c' ctv) ∈ news)
    (h2 : (c', oc) ∈ news) (hdd : oc.data = .fields vs) (hvv : vs[1]? = some (.str qual t)) (h3 : (c1, o1) ∈ news) (ho1 : o1.data = .cell (some (.ref x))) (hf : IsFrm w news x fv xs) (hn : xs.length = 5) :
    CtrX w f 44 500 [] news 56 := by
  k_with_none
  w_top off
  k_with "k_mem" => first | assumption | exact List.mem_cons_self | (refine List.mem_cons_of_mem _ ?_; k_extra "k_mem") | (refine List.mem_append_right _ ?_; k_extra "k_mem") | (refine List.mem_append_left _ ?_; k_extra "k_mem")
  k_with "k_all" => assumption
  k_with "ktr_room" => ((try simp only [depth_under_make, depth_under_kw, depth_in1, depth_deeper, depth_caller]); (try dsimp only [ktrTop]); first | exact room0 (by with_reducible assumption) | exact room1 (by with_reducible assumption) rfl | exact room2 (by with_reducible assumption) rfl | exact room3 (by with_reducible assumption) rfl | exact Nat.le_of_ble_eq_true rfl | lia | omega)
  k_with "k_room" => ktr_room
  k_with "ktr_units" => ((try simp only [units_in1, units_deeper, Around.mark_units, units_caller]); (try dsimp only [ktrTop]); first | exact room0 (by with_reducible assumption) | exact room1 (by with_reducible assumption) rfl | exact room2 (by with_reducible assumption) rfl | exact room3 (by with_reducible assumption) rfl | exact Nat.le_of_ble_eq_true rfl | ((have hcL9 := cLine_is); (first | lia | omega)))
  k_with "k_enter" => (refine' code_defC ?k1_20 ?k2_20 ?k3_20 ?k4_20 ?k5_20 ?kA_20 ?kF_20 ?kK_20 ?k6_20 ?k7_20 ?k8_20 ?k9_20 ?kB_20 ?kD_20 ?_ ?c2_20 ?c3_20 ?c4_20; (case kA_20 => exact rfl); (case kF_20 => exact rfl); (case kK_20 => first | exact rfl | assumption); (case k1_20 => k_asm); (case k2_20 => k_asm); (case k3_20 => k_asm); (case k4_20 => k_asm); (case k5_20 => k_asm); (case k6_20 => k_is); (case k7_20 => k_is); (case k8_20 => k_room); (case k9_20 => first | exact BindsTo.of_eq rfl | exact binds_K (by k_in) rfl (by k_is) rfl rfl rfl | fail "k_enter: no rule for these arguments"); (case kB_20 => exact rfl); (case kD_20 => decide +kernel); (case c2_20 => exact rfl); (case c3_20 => exact rfl); (case c4_20 => exact rfl); k_whole; intro _ _ _ _ _ _ _ N' Y' B' _ _ l1; (try k_lt l1); k_cells Y'; (try simp only [List.cons_append, List.nil_append] at N'); (try dsimp only); (try k_lift B'); (try k_fold))
  k_with "k_enter" => (refine' code_def ?k1_0 ?k2_0 ?k3_0 ?k4_0 ?k5_0 ?kA_0 ?kF_0 ?kK_0 ?k6_0 ?k7_0 ?k8_0 ?k9_0 ?kB_0 ?_ ?c2_0 ?c3_0 ?c4_0 ?c5_0; (case kA_0 => exact rfl); (case kF_0 => exact rfl); (case kK_0 => first | exact rfl | assumption); (case k1_0 => k_asm); (case k2_0 => k_asm); (case k3_0 => k_asm); (case k4_0 => k_asm); (case k5_0 => k_asm); (case k6_0 => k_is); (case k7_0 => k_is); (case k8_0 => k_room); (case k9_0 => first | exact BindsTo.of_eq rfl | exact binds_K (by k_in) rfl (by k_is) rfl rfl rfl | fail "k_enter: no rule for these arguments"); (case c5_0 => decide); (case kB_0 => exact locs rfl); (case c2_0 => exact rfl); (case c3_0 => exact rfl); (case c4_0 => exact rfl); k_whole; intro _ _ _ _ _ _ B' _ _; (try dsimp only); (try k_lift B'); (try k_fold))
  k_with "o call type:tuple" => (k_here; (with_reducible show wpAny _ _ (call (Value.type _) [Value.ref _]) _ _ _); k_dflt (refine call_tuple_tup (News.isTup (by k_asm) (by k_extra "k_mem")) ?_))
  k_with "o call type:bytes" => (k_here; (with_reducible show wpAny _ _ (call (Value.type _) [Value.bytes _ _]) _ _ _); refine call_bytes_same ?_)
  k_with "o call type:tuple" => (k_here; (with_reducible show wpAny _ _ (call (Value.type _) [Value.ref _]) _ _ _); k_dflt (refine' tupleOf_ys ?F_18 ?N_18 ?hm_18 ?hz_18 ?_; (case F_18 => k_asm); (case N_18 => k_asm); (case hm_18 => k_extra "k_mem"); (case hz_18 => first | assumption | exact Nat.le_of_ble_eq_true rfl); k_whole); intro _ _ _ _ l1; (try k_lt l1); (try (revert l1; intro _)); (try k_sweep))
  k_with "o compareOp Eq ref ref" => (k_here; (with_reducible show wpAny _ _ (compareOp _ (Value.ref _) (Value.ref _)) _ _ _); k_dflt (refine' eq_tups_nil (by k_asm) ?ka_8 (by k_extra "k_mem") (by ktr_units) ?_; (case ka_8 => k_extra "k_mem")); (try simp only [reduceCtorEq, decide_false, decide_true, Bool.not_false, Bool.not_true]))
  k_with "o compareOp NotEq ref ref" => (k_here; (with_reducible show wpAny _ _ (compareOp _ (Value.ref _) (Value.ref _)) _ _ _); k_dflt (refine' ne_tups_nil (by k_asm) ?ka_9 (by k_extra "k_mem") (by ktr_units) ?_; (case ka_9 => k_extra "k_mem")); (try simp only [reduceCtorEq, decide_false, decide_true, Bool.not_false, Bool.not_true]))
  k_with "o subscriptTail" => (k_here; (with_reducible show wpAny _ _ (subscriptTail _ _ (Value.ref _) (Value.int 0 _)) _ _ _); k_dflt (refine item_ledT0 (News.isTup (by k_asm) (by k_extra "k_mem")) ?_))
  k_with "o subscriptTail" => (k_here; (with_reducible show wpAny _ _ (subscriptTail _ _ (Value.ref _) (Value.ref _)) _ _ _); k_dflt (refine' from_ledT1 ?F_13 ?N_13 ?ht_13 ?hz_13 ?_; (case F_13 => k_asm); (case N_13 => k_asm); (case ht_13 => k_extra "k_mem"); (case hz_13 => first | assumption | (simp only [List.length_map]; first | exact Nat.le_of_ble_eq_true rfl | lia | omega))); intro _ _ _ _ l1; (try k_lt l1); (try (revert l1; intro _)); (try k_sweep))
  k_with "o binaryOp Add ref ref" => (k_here; (with_reducible show wpAny _ _ (binaryOp _ (Value.ref _) (Value.ref _)) _ _ _); k_dflt (refine' add_ledTm ?F_14 ?N_14 ?ht_14 ?hb_14 ?hz_14 ?_; (case F_14 => k_asm); (case N_14 => k_asm); (case ht_14 => k_extra "k_mem"); (case hb_14 => k_extra "k_mem"); (case hz_14 => (simp only [List.length_map, List.length_nil]; first | exact Nat.le_of_ble_eq_true rfl | lia | omega))); intro _ _ _ _ _ _ _; (try k_sweep))
  k_with "o binaryOp Add ref ref" => (k_here; (with_reducible show wpAny _ _ (binaryOp _ (Value.ref _) (Value.ref _)) _ _ _); k_dflt (refine' add_ledT1 ?F_15 ?N_15 ?ht_15 ?hb_15 ?hz_15 ?_; (case F_15 => k_asm); (case N_15 => k_asm); (case ht_15 => k_extra "k_mem"); (case hb_15 => k_extra "k_mem"); (case hz_15 => (simp only [List.length_map, List.length_nil]; first | exact Nat.le_of_ble_eq_true rfl | lia | omega))); intro _ _ _ _ l1; (try k_lt l1); (try (revert l1; intro _)); (try k_sweep))
  k_with "o binaryOp Add ref ref" => (k_here; (with_reducible show wpAny _ _ (binaryOp _ (Value.ref _) (Value.ref _)) _ _ _); k_dflt (refine' add_ledT0 ?F_16 ?N_16 ?ht_16 ?hb_16 ?hz_16 ?_; (case F_16 => k_asm); (case N_16 => k_asm); (case ht_16 => k_extra "k_mem"); (case hb_16 => k_extra "k_mem"); (case hz_16 => (simp only [List.length_map, List.length_nil]; first | exact Nat.le_of_ble_eq_true rfl | lia | omega))))
  k_with "tbn_conj" => first | exact abv_nil | assumption | exact abv_one (by assumption) | (refine abv_next (by first | assumption | exact And.left (by assumption) | lia | omega) ?_; k_extra "tbn_conj") | exact abv_oneA (by first | assumption | exact And.right (by assumption) | exact And.right (And.right (by assumption))) | (refine abv_all (by assumption) ?_; k_extra "tbn_conj") | (refine abv_allA (by first | assumption | exact And.right (by assumption) | exact And.right (And.right (by assumption))) ?_; k_extra "tbn_conj") | (refine abv_allS (by assumption) (by simp only [List.cons_append, List.append_assoc, List.nil_append]) ?_; k_extra "tbn_conj") | (refine abv_app ?_ ?_ <;> k_extra "tbn_conj")
  k_with "o mem9" => (with_reducible first | exact List.mem_cons_self | (refine List.mem_cons_of_mem _ ?_; k_extra "o mem9") | (refine List.mem_append_right _ ?_; k_extra "o mem9") | (refine List.mem_append_left _ ?_; k_extra "o mem9") | assumption)
  k_with "o subv" => (with_reducible first | exact sub_rfl | exact sub_le | (refine sub_tl ?_; k_extra "o subv") | (refine sub_ri ?_; k_extra "o subv") | (refine sub_lf ?_; k_extra "o subv"))
  k_with "o sub9" => first | k_extra "o subv" | exact sub_nil | ((with_reducible refine sub_cons ?_ ?_); (k_extra "o mem9"); k_extra "o sub9") | ((with_reducible refine sub_app ?_ ?_); k_extra "o sub9"; k_extra "o sub9")
  k_with "ktd_rel" => first | with_reducible assumption | ((with_reducible refine IsFrm.mono ?_ (by with_reducible assumption)); k_extra "o sub9") | ((with_reducible refine IsTag.mono ?_ (by with_reducible assumption)); k_extra "o sub9") | ((with_reducible refine TagsAt.mono ?_ (by with_reducible assumption)); k_extra "o sub9") | ((with_reducible refine RowsAt.mono ?_ (by with_reducible assumption)); k_extra "o sub9") | ((with_reducible refine' IsFrm.of ?q1_39 ?q2_39 ?q3_39); (case q1_39 => k_extra "k_mem"); (case q2_39 => k_extra "k_mem"); (case q3_39 => k_extra "k_mem")) | ((with_reducible refine' IsTag.of ?q1_39 ?q2_39); (case q1_39 => k_extra "k_mem"); (case q2_39 => k_extra "k_mem"))
  k_with "k_all" => first | (refine' allNe_of ?h1_45 ?h2_45; (case h1_45 => assumption); (case h2_45 => first | exact Nat.le_refl _ | exact Nat.le_succ _ | lia | omega)) | (refine' allNe_ofA ?h1_45 ?h2_45; (case h1_45 => assumption); (case h2_45 => first | exact Nat.le_refl _ | exact Nat.le_succ _ | lia | omega)) | (refine' allNe_ofA1 ?h1_45 ?h2_45; (case h1_45 => assumption); (case h2_45 => first | exact Nat.le_refl _ | exact Nat.le_succ _ | lia | omega)) | (refine' allNe_ofA2 ?h1_45 ?h2_45; (case h1_45 => assumption); (case h2_45 => first | exact Nat.le_refl _ | exact Nat.le_succ _ | lia | omega))
  k_with "o exec Raise some none" => (k_here; k_dflt (refine raise_own rfl ?_))
  k_with "o RaiseEnd" => ((with_reducible show RaiseEnd _ _ _ _); first | (refine' RaiseEnd.of (C := 44) (fI := 28) (excMakes_of ?X_51 ?q_51) ?he_51 ?hc_51 ?hd_51 ?h1_51 ?_; (case X_51 => exact Frag.In.keeps (by k_asm) (Fr.keep (by k_asm))); (case q_51 => exact rfl); (case he_51 => exact News.get (by k_asm) List.mem_cons_self); (case hc_51 => exact rfl); (case hd_51 => exact rfl); (case h1_51 => exact rfl); (try dsimp only)) | (refine' RaiseEnd.of (C := 56) (fI := 28) (excMakes_of ?X_51 ?q_51) ?he_51 ?hc_51 ?hd_51 ?h1_51 ?_; (case X_51 => exact Frag.In.keeps (by k_asm) (Fr.keep (by k_asm))); (case q_51 => exact rfl); (case he_51 => exact News.get (by k_asm) List.mem_cons_self); (case hc_51 => exact rfl); (case hd_51 => exact rfl); (case h1_51 => exact rfl); (try dsimp only)))
  k_with "o leaving ref" => (k_here; first | (k_dflt (refine' pass_ownS ?hf_52 ?K_52 ?F_52 ?R_52 ?U_52 ?_; (case R_52 => assumption); (case hf_52 => rfl); (case K_52 => assumption); (case F_52 => assumption); (case U_52 => assumption); k_whole); intro _ _ _) | (k_dflt (refine' leave_ownS ?hf_52 ?hk_52 ?K_52 ?F_52 ?N_52 ?off_52 ?hd_52 ?h1_52 ?h0_52 ?_; (case hf_52 => rfl); (case hk_52 => rfl); (case F_52 => assumption); (case N_52 => assumption); (case K_52 => assumption); (case hd_52 => rfl); (case h1_52 => rfl); (case h0_52 => rfl); (case off_52 => k_all); k_whole); intro _ _ _))
  k_with "o eval Name" => (k_here; k_dflt (refine' nameX_F ?N_62 ?c_62 ?m_62 ?d_62 ?_ ?a_62 ?b_62; (case a_62 => rfl); (case b_62 => rfl); (case N_62 => k_asm); (case c_62 => rfl); (case m_62 => k_extra "k_mem"); (case d_62 => k_asm); k_whole))
  k_with "o call ref" => (k_here; (with_reducible show wpAny _ _ (call (Value.ref _) []) _ _ _); k_dflt (refine wpAny_call ?_; (refine' kla_code ?k1_63 ?k2_63 ?k3_63 ?k4_63 ?k5_63 ?kA_63 ?kF_63 ?kK_63 ?k6_63 ?k7_63 ?k8_63 ?k9_63 ?kB_63 ?_ ?c2_63 ?c3_63 ?c4_63 ?c5_63; (case kA_63 => exact rfl); (case kF_63 => exact rfl); (case kK_63 => first | exact rfl | assumption); (case k1_63 => k_asm); (case k2_63 => k_asm); (case k3_63 => k_asm); (case k4_63 => k_asm); (case k5_63 => k_asm); (case k6_63 => k_extra "k_mem"); (case k7_63 => exact codeRec_news (by k_asm) (by k_extra "k_mem") (by assumption) (by assumption)); (case k8_63 => k_room); (case k9_63 => exact rfl); (case c5_63 => decide); (case kB_63 => exact locs rfl); (case c2_63 => exact rfl); (case c3_63 => exact rfl); (case c4_63 => exact rfl); k_whole; intro _ _ _ _ _ _ B' _ _; (try dsimp only); (try k_lift B'); (try k_fold))))
  k_with "o call ref" => (k_here; (with_reducible show wpAny _ _ (call (Value.ref 288) _) _ _ _); refine stop_of ?_)
  k_with "o call ref" => (k_here; (with_reducible show wpAny _ _ (call (Value.ref 288) _) _ _ _); k_dflt (refine' CtrX.use (pack_frame_x5 _ _ _ _ _ ?kc_103 ?kn_103) ?k1_103 ?k2_103 ?k3_103 ?k4_103 ?k5_103 ?kK_103 ?kd_103 ?ku_103 ?_; (case k1_103 => k_asm); (case k2_103 => k_asm); (case k3_103 => k_asm); (case k4_103 => k_asm); (case k5_103 => k_asm); (case kK_103 => first | exact rfl | assumption); (case kd_103 => ktr_room); (case ku_103 => ktr_units); (case kc_103 => k_extra "ktd_rel"); (case kn_103 => assumption); k_whole; intro _ _ _ _ _ _ _; (try dsimp only)))
  intro pr loose mean mg mb dp un gd cn cs ad ccd cl outer A₀ base h₀ L m s Q E B F X N T hk hd' hu hret
  k_steps
  all_goals
    refine' hret _ _ _ _ ?e1 (RaisedSN.sub ?e2 ?e3) ?e4
    (case e2 => assumption)
    (case e1 => assumption)
    (case e4 => assumption)
    (case e3 => exact fun q hq => hq)
end
section
theorem lam_pack1 (w : World) (news : Led) (f c1 c' x : Addr) (oc o1 : Obj) (vs : Array Value) (t : Tok) (ln qual : Str) (pm ctv : Value) (p1 p2 p3 p4 : Pos) (y : Addr) (tt tsr tk tp : Tok) (pb : Array UInt8) (tg : TagV)
    (h1 : (f, kla_obj ln qual { posonlyargs := [], args := [], vararg := none, kwonlyargs := [], kw_defaults := [], kwarg := none, defaults := [] } (.Call (.Name (Str.ofString "pack_frame") p1) [.Name (Str.ofString "wrong") p2] [] p3) { kind := .function, names := [(Str.ofString "wrong", .free), (Str.ofString "pack_frame", .globalImplicit)], isGenerator := false, isCoroutine := false } [(Str.ofString "wrong", c1)] pm c' ctv) ∈ news)
    (h2 : (c', oc) ∈ news) (hdd : oc.data = .fields vs) (hvv : vs[1]? = some (.str qual t)) (h3 : (c1, o1) ∈ news) (ho1 : o1.data = .cell (some (.ref x))) (hf : IsFrm w news x (fv tt tsr tk tp pb) [y]) (ht : IsTag w news y tg) (hb : (¬ (tg.k = 33024 ∨ tg.k = 34984)) ∨ ((tg.k = 33024 ∨ tg.k = 34984) ∧ (tg.p < 0 ∨ (0 ≤ tg.p ∧ 7 < tg.p))) ∨ ((tg.k = 33024 ∨ tg.k = 34984) ∧ (0 ≤ tg.p ∧ tg.p ≤ 7) ∧ (tg.v < 0 ∨ (0 ≤ tg.v ∧ 4095 ≤ tg.v)))) :
    CtrX w f 44 500 [] news 56 := by
  k_with_none
  w_top off
  k_with "k_mem" => first | assumption | exact List.mem_cons_self | (refine List.mem_cons_of_mem _ ?_; k_extra "k_mem") | (refine List.mem_append_right _ ?_; k_extra "k_mem") | (refine List.mem_append_left _ ?_; k_extra "k_mem")
  k_with "k_all" => assumption
  k_with "ktr_room" => ((try simp only [depth_under_make, depth_under_kw, depth_in1, depth_deeper, depth_caller]); (try dsimp only [ktrTop]); first | exact room0 (by with_reducible assumption) | exact room1 (by with_reducible assumption) rfl | exact room2 (by with_reducible assumption) rfl | exact room3 (by with_reducible assumption) rfl | exact Nat.le_of_ble_eq_true rfl | lia | omega)
  k_with "k_room" => ktr_room
  k_with "ktr_units" => ((try simp only [units_in1, units_deeper, Around.mark_units, units_caller]); (try dsimp only [ktrTop]); first | exact room0 (by with_reducible assumption) | exact room1 (by with_reducible assumption) rfl | exact room2 (by with_reducible assumption) rfl | exact room3 (by with_reducible assumption) rfl | exact Nat.le_of_ble_eq_true rfl | ((have hcL9 := cLine_is); (first | lia | omega)))
  k_with "k_enter" => (refine' code_defC ?k1_20 ?k2_20 ?k3_20 ?k4_20 ?k5_20 ?kA_20 ?kF_20 ?kK_20 ?k6_20 ?k7_20 ?k8_20 ?k9_20 ?kB_20 ?kD_20 ?_ ?c2_20 ?c3_20 ?c4_20; (case kA_20 => exact rfl); (case kF_20 => exact rfl); (case kK_20 => first | exact rfl | assumption); (case k1_20 => k_asm); (case k2_20 => k_asm); (case k3_20 => k_asm); (case k4_20 => k_asm); (case k5_20 => k_asm); (case k6_20 => k_is); (case k7_20 => k_is); (case k8_20 => k_room); (case k9_20 => first | exact BindsTo.of_eq rfl | exact binds_K (by k_in) rfl (by k_is) rfl rfl rfl | fail "k_enter: no rule for these arguments"); (case kB_20 => exact rfl); (case kD_20 => decide +kernel); (case c2_20 => exact rfl); (case c3_20 => exact rfl); (case c4_20 => exact rfl); k_whole; intro _ _ _ _ _ _ _ N' Y' B' _ _ l1; (try k_lt l1); k_cells Y'; (try simp only [List.cons_append, List.nil_append] at N'); (try dsimp only); (try k_lift B'); (try k_fold))
  k_with "k_enter" => (refine' code_def ?k1_0 ?k2_0 ?k3_0 ?k4_0 ?k5_0 ?kA_0 ?kF_0 ?kK_0 ?k6_0 ?k7_0 ?k8_0 ?k9_0 ?kB_0 ?_ ?c2_0 ?c3_0 ?c4_0 ?c5_0; (case kA_0 => exact rfl); (case kF_0 => exact rfl); (case kK_0 => first | exact rfl | assumption); (case k1_0 => k_asm); (case k2_0 => k_asm); (case k3_0 => k_asm); (case k4_0 => k_asm); (case k5_0 => k_asm); (case k6_0 => k_is); (case k7_0 => k_is); (case k8_0 => k_room); (case k9_0 => first | exact BindsTo.of_eq rfl | exact binds_K (by k_in) rfl (by k_is) rfl rfl rfl | fail "k_enter: no rule for these arguments"); (case c5_0 => decide); (case kB_0 => exact locs rfl); (case c2_0 => exact rfl); (case c3_0 => exact rfl); (case c4_0 => exact rfl); k_whole; intro _ _ _ _ _ _ B' _ _; (try dsimp only); (try k_lift B'); (try k_fold))
  k_with "o call type:tuple" => (k_here; (with_reducible show wpAny _ _ (call (Value.type _) [Value.ref _]) _ _ _); k_dflt (refine call_tuple_tup (News.isTup (by k_asm) (by k_extra "k_mem")) ?_))
  k_with "o call type:bytes" => (k_here; (with_reducible show wpAny _ _ (call (Value.type _) [Value.bytes _ _]) _ _ _); refine call_bytes_same ?_)
  k_with "o call type:tuple" => (k_here; (with_reducible show wpAny _ _ (call (Value.type _) [Value.ref _]) _ _ _); k_dflt (refine' tupleOf_ys ?F_18 ?N_18 ?hm_18 ?hz_18 ?_; (case F_18 => k_asm); (case N_18 => k_asm); (case hm_18 => k_extra "k_mem"); (case hz_18 => first | assumption | exact Nat.le_of_ble_eq_true rfl); k_whole); intro _ _ _ _ l1; (try k_lt l1); (try (revert l1; intro _)); (try k_sweep))
  k_with "o compareOp Eq ref ref" => (k_here; (with_reducible show wpAny _ _ (compareOp _ (Value.ref _) (Value.ref _)) _ _ _); k_dflt (refine' eq_tups_nil (by k_asm) ?ka_8 (by k_extra "k_mem") (by ktr_units) ?_; (case ka_8 => k_extra "k_mem")); (try simp only [reduceCtorEq, decide_false, decide_true, Bool.not_false, Bool.not_true]))
  k_with "o compareOp NotEq ref ref" => (k_here; (with_reducible show wpAny _ _ (compareOp _ (Value.ref _) (Value.ref _)) _ _ _); k_dflt (refine' ne_tups_nil (by k_asm) ?ka_9 (by k_extra "k_mem") (by ktr_units) ?_; (case ka_9 => k_extra "k_mem")); (try simp only [reduceCtorEq, decide_false, decide_true, Bool.not_false, Bool.not_true]))
  k_with "o subscriptTail" => (k_here; (with_reducible show wpAny _ _ (subscriptTail _ _ (Value.ref _) (Value.int 0 _)) _ _ _); k_dflt (refine item_ledT0 (News.isTup (by k_asm) (by k_extra "k_mem")) ?_))
  k_with "o subscriptTail" => (k_here; (with_reducible show wpAny _ _ (subscriptTail _ _ (Value.ref _) (Value.ref _)) _ _ _); k_dflt (refine' from_ledT1 ?F_13 ?N_13 ?ht_13 ?hz_13 ?_; (case F_13 => k_asm); (case N_13 => k_asm); (case ht_13 => k_extra "k_mem"); (case hz_13 => first | assumption | (simp only [List.length_map]; first | exact Nat.le_of_ble_eq_true rfl | lia | omega))); intro _ _ _ _ l1; (try k_lt l1); (try (revert l1; intro _)); (try k_sweep))
  k_with "o binaryOp Add ref ref" => (k_here; (with_reducible show wpAny _ _ (binaryOp _ (Value.ref _) (Value.ref _)) _ _ _); k_dflt (refine' add_ledTm ?F_14 ?N_14 ?ht_14 ?hb_14 ?hz_14 ?_; (case F_14 => k_asm); (case N_14 => k_asm); (case ht_14 => k_extra "k_mem"); (case hb_14 => k_extra "k_mem"); (case hz_14 => (simp only [List.length_map, List.length_nil]; first | exact Nat.le_of_ble_eq_true rfl | lia | omega))); intro _ _ _ _ _ _ _; (try k_sweep))
  k_with "o binaryOp Add ref ref" => (k_here; (with_reducible show wpAny _ _ (binaryOp _ (Value.ref _) (Value.ref _)) _ _ _); k_dflt (refine' add_ledT1 ?F_15 ?N_15 ?ht_15 ?hb_15 ?hz_15 ?_; (case F_15 => k_asm); (case N_15 => k_asm); (case ht_15 => k_extra "k_mem"); (case hb_15 => k_extra "k_mem"); (case hz_15 => (simp only [List.length_map, List.length_nil]; first | exact Nat.le_of_ble_eq_true rfl | lia | omega))); intro _ _ _ _ l1; (try k_lt l1); (try (revert l1; intro _)); (try k_sweep))
  k_with "o binaryOp Add ref ref" => (k_here; (with_reducible show wpAny _ _ (binaryOp _ (Value.ref _) (Value.ref _)) _ _ _); k_dflt (refine' add_ledT0 ?F_16 ?N_16 ?ht_16 ?hb_16 ?hz_16 ?_; (case F_16 => k_asm); (case N_16 => k_asm); (case ht_16 => k_extra "k_mem"); (case hb_16 => k_extra "k_mem"); (case hz_16 => (simp only [List.length_map, List.length_nil]; first | exact Nat.le_of_ble_eq_true rfl | lia | omega))))
  k_with "tbn_conj" => first | exact abv_nil | assumption | exact abv_one (by assumption) | (refine abv_next (by first | assumption | exact And.left (by assumption) | lia | omega) ?_; k_extra "tbn_conj") | exact abv_oneA (by first | assumption | exact And.right (by assumption) | exact And.right (And.right (by assumption))) | (refine abv_all (by assumption) ?_; k_extra "tbn_conj") | (refine abv_allA (by first | assumption | exact And.right (by assumption) | exact And.right (And.right (by assumption))) ?_; k_extra "tbn_conj") | (refine abv_allS (by assumption) (by simp only [List.cons_append, List.append_assoc, List.nil_append]) ?_; k_extra "tbn_conj") | (refine abv_app ?_ ?_ <;> k_extra "tbn_conj")
  k_with "o mem9" => (with_reducible first | exact List.mem_cons_self | (refine List.mem_cons_of_mem _ ?_; k_extra "o mem9") | (refine List.mem_append_right _ ?_; k_extra "o mem9") | (refine List.mem_append_left _ ?_; k_extra "o mem9") | assumption)
  k_with "o subv" => (with_reducible first | exact sub_rfl | exact sub_le | (refine sub_tl ?_; k_extra "o subv") | (refine sub_ri ?_; k_extra "o subv") | (refine sub_lf ?_; k_extra "o subv"))
  k_with "o sub9" => first | k_extra "o subv" | exact sub_nil | ((with_reducible refine sub_cons ?_ ?_); (k_extra "o mem9"); k_extra "o sub9") | ((with_reducible refine sub_app ?_ ?_); k_extra "o sub9"; k_extra "o sub9")
  k_with "ktd_rel" => first | with_reducible assumption | ((with_reducible refine IsFrm.mono ?_ (by with_reducible assumption)); k_extra "o sub9") | ((with_reducible refine IsTag.mono ?_ (by with_reducible assumption)); k_extra "o sub9") | ((with_reducible refine TagsAt.mono ?_ (by with_reducible assumption)); k_extra "o sub9") | ((with_reducible refine RowsAt.mono ?_ (by with_reducible assumption)); k_extra "o sub9") | ((with_reducible refine' IsFrm.of ?q1_39 ?q2_39 ?q3_39); (case q1_39 => k_extra "k_mem"); (case q2_39 => k_extra "k_mem"); (case q3_39 => k_extra "k_mem")) | ((with_reducible refine' IsTag.of ?q1_39 ?q2_39); (case q1_39 => k_extra "k_mem"); (case q2_39 => k_extra "k_mem"))
  k_with "k_all" => first | (refine' allNe_of ?h1_45 ?h2_45; (case h1_45 => assumption); (case h2_45 => first | exact Nat.le_refl _ | exact Nat.le_succ _ | lia | omega)) | (refine' allNe_ofA ?h1_45 ?h2_45; (case h1_45 => assumption); (case h2_45 => first | exact Nat.le_refl _ | exact Nat.le_succ _ | lia | omega)) | (refine' allNe_ofA1 ?h1_45 ?h2_45; (case h1_45 => assumption); (case h2_45 => first | exact Nat.le_refl _ | exact Nat.le_succ _ | lia | omega)) | (refine' allNe_ofA2 ?h1_45 ?h2_45; (case h1_45 => assumption); (case h2_45 => first | exact Nat.le_refl _ | exact Nat.le_succ _ | lia | omega))
  k_with "o exec Raise some none" => (k_here; k_dflt (refine raise_own rfl ?_))
  k_with "o RaiseEnd" => ((with_reducible show RaiseEnd _ _ _ _); first | (refine' RaiseEnd.of (C := 44) (fI := 28) (excMakes_of ?X_51 ?q_51) ?he_51 ?hc_51 ?hd_51 ?h1_51 ?_; (case X_51 => exact Frag.In.keeps (by k_asm) (Fr.keep (by k_asm))); (case q_51 => exact rfl); (case he_51 => exact News.get (by k_asm) List.mem_cons_self); (case hc_51 => exact rfl); (case hd_51 => exact rfl); (case h1_51 => exact rfl); (try dsimp only)) | (refine' RaiseEnd.of (C := 56) (fI := 28) (excMakes_of ?X_51 ?q_51) ?he_51 ?hc_51 ?hd_51 ?h1_51 ?_; (case X_51 => exact Frag.In.keeps (by k_asm) (Fr.keep (by k_asm))); (case q_51 => exact rfl); (case he_51 => exact News.get (by k_asm) List.mem_cons_self); (case hc_51 => exact rfl); (case hd_51 => exact rfl); (case h1_51 => exact rfl); (try dsimp only)))
  k_with "o leaving ref" => (k_here; first | (k_dflt (refine' pass_ownS ?hf_52 ?K_52 ?F_52 ?R_52 ?U_52 ?_; (case R_52 => assumption); (case hf_52 => rfl); (case K_52 => assumption); (case F_52 => assumption); (case U_52 => assumption); k_whole); intro _ _ _) | (k_dflt (refine' leave_ownS ?hf_52 ?hk_52 ?K_52 ?F_52 ?N_52 ?off_52 ?hd_52 ?h1_52 ?h0_52 ?_; (case hf_52 => rfl); (case hk_52 => rfl); (case F_52 => assumption); (case N_52 => assumption); (case K_52 => assumption); (case hd_52 => rfl); (case h1_52 => rfl); (case h0_52 => rfl); (case off_52 => k_all); k_whole); intro _ _ _))
  k_with "o eval Name" => (k_here; k_dflt (refine' nameX_F ?N_62 ?c_62 ?m_62 ?d_62 ?_ ?a_62 ?b_62; (case a_62 => rfl); (case b_62 => rfl); (case N_62 => k_asm); (case c_62 => rfl); (case m_62 => k_extra "k_mem"); (case d_62 => k_asm); k_whole))
  k_with "o call ref" => (k_here; (with_reducible show wpAny _ _ (call (Value.ref _) []) _ _ _); k_dflt (refine wpAny_call ?_; (refine' kla_code ?k1_63 ?k2_63 ?k3_63 ?k4_63 ?k5_63 ?kA_63 ?kF_63 ?kK_63 ?k6_63 ?k7_63 ?k8_63 ?k9_63 ?kB_63 ?_ ?c2_63 ?c3_63 ?c4_63 ?c5_63; (case kA_63 => exact rfl); (case kF_63 => exact rfl); (case kK_63 => first | exact rfl | assumption); (case k1_63 => k_asm); (case k2_63 => k_asm); (case k3_63 => k_asm); (case k4_63 => k_asm); (case k5_63 => k_asm); (case k6_63 => k_extra "k_mem"); (case k7_63 => exact codeRec_news (by k_asm) (by k_extra "k_mem") (by assumption) (by assumption)); (case k8_63 => k_room); (case k9_63 => exact rfl); (case c5_63 => decide); (case kB_63 => exact locs rfl); (case c2_63 => exact rfl); (case c3_63 => exact rfl); (case c4_63 => exact rfl); k_whole; intro _ _ _ _ _ _ B' _ _; (try dsimp only); (try k_lift B'); (try k_fold))))
  k_with "o call ref" => (k_here; (with_reducible show wpAny _ _ (call (Value.ref 288) _) _ _ _); refine stop_of ?_)
  k_with "o call ref" => (k_here; (with_reducible show wpAny _ _ (call (Value.ref 288) _) _ _ _); k_dflt (refine' CtrX.use (pack_frame_x1 _ _ _ _ _ _ _ _ _ ?kc_104 _ ?kt_104 ?kb_104) ?k1_104 ?k2_104 ?k3_104 ?k4_104 ?k5_104 ?kK_104 ?kd_104 ?ku_104 ?_; (case k1_104 => k_asm); (case k2_104 => k_asm); (case k3_104 => k_asm); (case k4_104 => k_asm); (case k5_104 => k_asm); (case kK_104 => first | exact rfl | assumption); (case kd_104 => ktr_room); (case ku_104 => ktr_units); (case kc_104 => k_extra "ktd_rel"); (case kt_104 => k_extra "ktd_rel"); (case kb_104 => assumption); k_whole; intro _ _ _ _ _ _ _; (try dsimp only)))
  k_with "o zzz" => (k_here; (with_reducible show wpAny _ _ (call (Value.ref 288) _) _ _ _); refine stop_of ?_)
  k_with "o zzz" => (k_here; (with_reducible show wpAny _ _ (call (Value.ref 288) _) _ _ _); k_dflt (refine' CtrX.use (pack_frame_x1 _ _ _ _ _ _ _ _ _ ?kc_104 _ ?kt_104 ?kb_104) ?k1_104 ?k2_104 ?k3_104 ?k4_104 ?k5_104 ?kK_104 ?kd_104 ?ku_104 ?_; (case k1_104 => k_asm); (case k2_104 => k_asm); (case k3_104 => k_asm); (case k4_104 => k_asm); (case k5_104 => k_asm); (case kK_104 => first | exact rfl | assumption); (case kd_104 => ktr_room); (case ku_104 => ktr_units); (case kc_104 => k_extra "ktd_rel"); (case kt_104 => k_extra "ktd_rel"); (case kb_104 => assumption); k_whole; intro _ _ _ _ _ _ _; (try dsimp only)))
  intro pr loose mean mg mb dp un gd cn cs ad ccd cl outer A₀ base h₀ L m s Q E B F X N T hk hd' hu hret
  k_steps
  all_goals
    refine' hret _ _ _ _ ?e1 (RaisedSN.sub ?e2 ?e3) ?e4
    (case e2 => assumption)
    (case e1 => assumption)
    (case e4 => assumption)
    (case e3 => exact fun q hq => hq)
end
end
section
open PySem PySem.W PyProof.Rows PySem.Calls PySem.Spec
set_option maxRecDepth 100000
set_option maxHeartbeats 4000000
theorem rows_eqvS {news : Led} : ∀ {xs ys : List Addr} {ts us : List TagV}, RowsAt news xs us → RowsAt news ys ts → SameTags ts us → EqvA news 1 (xs.map Value.ref) (ys.map Value.ref)
  | [], [], [], [], _, _, _ => .nil _
  | _ :: _, _ :: _, t :: _, u :: _, h, k, s => by
    refine .cons ?_ (rows_eqvS h.2 k.2 s.2)
    have e := s.1
    have h1 := h.1
    obtain ⟨k1, tk1, p1, tp1, d1, v1, tv1⟩ := u
    obtain ⟨k2, tk2, p2, tp2, d2, v2, tv2⟩ := t
    obtain ⟨e1, e2, e3, e4⟩ := e
    dsimp only at e1 e2 e3 e4
    subst e1 e2 e3 e4
    exact .tup h1 k.1 (.cons (.int _ _ _ _) (.cons (.int _ _ _ _) (.cons (.same _ _) (.cons (.int _ _ _ _) (.nil _)))))
  | [], _, _, _ :: _, h, _, _ => h.elim
  | _ :: _, _, _, [], h, _, _ => h.elim
  | [], [], _ :: _, [], _, k, _ => k.elim
  | [], _ :: _, [], [], _, k, _ => k.elim
  | [], _ :: _, _ :: _, [], _, _, s => (show False from s).elim
  | _ :: _, [], _ :: _, _ :: _, _, k, _ => k.elim
  | _ :: _, _ :: _, [], _ :: _, _, k, _ => k.elim
  | _ :: _, [], [], _ :: _, _, _, s => (show False from s).elim
theorem told_eqvS {news : Led} {i j k : Int} {t1 t2 t3 u1 u2 u3 : Tok} {T U : Addr} {b : Array UInt8} {t4 u4 : Tok} {xs ys : List Addr} {ts us : List TagV} (hT : (T, tupObj (xs.map Value.ref)) ∈ news) (hU : (U, tupObj (ys.map Value.ref)) ∈ news) (hx : RowsAt news xs us) (hy : RowsAt news ys ts) (s : SameTags ts us) :
    EqvA news 2 [.int i t1, .int j t2, .ref T, .int k t3, .bytes b t4] [.int i u1, .int j u2, .ref U, .int k u3, .bytes b u4] :=
  .cons (.int _ _ _ _) (.cons (.int _ _ _ _) (.cons (.tup hT hU (rows_eqvS hx hy s)) (.cons (.int _ _ _ _) (.cons (.bytes _ _ _ _) (.nil _)))))
theorem IsFrm.dropC {w : World} {pre post : Led} {D x : Addr} {o : Obj} {v : Option Value} {f : FrameV} {xs : List Addr} (k : IsFrm w (pre ++ (D, o) :: post) x f xs) (hv : o.data = .cell v) : IsFrm w (pre ++ post) x f xs := by
  obtain ⟨dx, tu, a, b, c, d, e, m1, m2, m3⟩ := k
  have go : ∀ {y : Addr} {u : Obj}, u.data ≠ .cell v → (y, u) ∈ pre ++ (D, o) :: post → (y, u) ∈ pre ++ post := by
    intro y u hu hm
    rcases List.mem_append.mp hm with h | h
    · exact List.mem_append_left _ h
    · rcases List.mem_cons.mp h with h | h
      · cases h; exact absurd hv hu
      · exact List.mem_append_right _ h
  exact ⟨dx, tu, a, b, c, d, e, go (by intro q; cases q) m1, go (by intro q; cases q) m2, go (by intro q; cases q) m3⟩
theorem from_ledR {prog : Program} {w : World} {A : Around} {E : Value → Shared → Prop} {s : Shared} {h₀ : Heap} {L : Addr} {m : Str → Option Value} {news : Led} {value slice : PySem.Expr} {t : Addr} {rows : List Addr} {i : Int} {a : Nat} {u : Tok} {Q : Value → Shared → Prop}
    (F : Fr h₀ L s.heap m) (N : News h₀ L s.heap news) (ht : (t, tupObj (rows.map Value.ref)) ∈ news) (hi : i = (a : Int)) (h1 : 1 ≤ a) (ha : a ≤ rows.length) (hz : rows.length ≤ 5000)
    (h : ∀ D h', Fr h₀ L h' m → News h₀ L h' ((D, tupObj ((rows.drop a).map Value.ref)) :: news) → (∀ q ∈ news, @LT.lt Nat _ q.1 D) → Q (.ref D) { s with heap := h' })
    (hs : subscripted slice false (.ref t) (.ref s.heap.objs.size) = operate [.ref s.heap.objs.size, .ref t] (getItem (.ref t) (.ref s.heap.objs.size)) := by with_unfolding_all rfl)
    (hg : ∀ r, letTemporaryGo value (.ref t) r = pure () := by intro _; with_unfolding_all rfl) :
    wpAny (model prog w) A (subscriptTail value slice (.ref t) (.ref s.heap.objs.size)) Q E { s with heap := s.heap.push { cls := .type "slice", data := .fields #[.int i u, .none, .none] } } := by
  subst hi
  rw [List.map_drop] at h
  exact from_ledT F N ht h1 (by simpa using ha) (by simpa using hz) h hs hg
noncomputable abbrev Bad (t : TagV) : Prop := (¬ (t.k = 33024 ∨ t.k = 34984)) ∨ ((t.k = 33024 ∨ t.k = 34984) ∧ (t.p < 0 ∨ (0 ≤ t.p ∧ 7 < t.p))) ∨ ((t.k = 33024 ∨ t.k = 34984) ∧ (0 ≤ t.p ∧ t.p ≤ 7) ∧ (t.v < 0 ∨ (0 ≤ t.v ∧ 4095 ≤ t.v)))
noncomputable def InN {g h : Heap} {L : Addr} {r : Led} (_ : News g L h r) (a : Addr × Obj) : Prop := a ∈ r
theorem InN.news {g h : Heap} {L : Addr} {r l : Led} {N : News g L h r} {a : Addr × Obj} (m : InN N a) (K : News g L h l) : News g L h (a :: l) := fun q hq => by
  rcases List.mem_cons.mp hq with rfl | hq
  · exact N _ m
  · exact K q hq
theorem law_frame0_ok (w : World) (news : Led) (rl : Addr) (c : Nat) (hrl : (rl, W.listOf #[] c) ∈ news) (pb : Array UInt8) (pt : Tok) :
    Ctr w 399 8 80 [.ref rl, .bytes pb pt] news (fun R => ∀ tl x tt ts' tk tp, Abv news tl → IsFrm w (tl ++ news) x (fv tt ts' tk tp pb) [] → R (tl ++ news) (.ref x)) := by
  intro p loose mean mg mb dp un gd cn cs ad ccd cl outer A₀ base h₀ L m s Q E B F X N T hk hd' hu hret
  refine Ctr.use (law_frame_ok w news rl c [] [] hrl trivial (by decide) pb pt) B F X N T hk hd' hu ?_
  intro tl x tt ts' tk tp xs hA hF hT h' tk' F' N'
  cases xs with
  | nil => exact hret tl x tt ts' tk tp hA hF h' tk' F' N'
  | cons y ys => exact hT.elim
noncomputable def octQ : Str := (Str.ofString "_law_octets_right" ++ ".<locals>.") ++ Str.ofString "<lambda>"
noncomputable abbrev octTab (c1 c2 : Addr) : Obj := tabObj (#[] ++ #[rawInt ((207 : Nat) : Int), rawInt ((74 : Nat) : Int), .ref c1] ++ #[rawInt ((211 : Nat) : Int), rawInt ((54 : Nat) : Int), .ref c2])
theorem IsFrm.thin {w : World} {r r' : Led} {x : Addr} {f : FrameV} {xs : List Addr} (k : IsFrm w r x f xs) (h : ∀ q ∈ r, q ∈ r' ∨ (∃ v, q.2.data = .cell v) ∨ q.2.cls = .none) : IsFrm w r' x f xs := by
  obtain ⟨dx, tu, a, b, c, d, e, m1, m2, m3⟩ := k
  have go : ∀ {y : Addr} {u : Obj}, (∀ v, u.data ≠ .cell v) → u.cls ≠ .none → (y, u) ∈ r → (y, u) ∈ r' := by
    intro y u h1 h2 hm
    rcases h _ hm with h | ⟨v, h⟩ | h
    · exact h
    · exact absurd h (h1 v)
    · exact absurd h h2
  exact ⟨dx, tu, a, b, c, d, e, go (by intro v q; cases q) (by intro q; cases q) m1, go (by intro v q; cases q) (by intro q; cases q) m2, go (by intro v q; cases q) (by intro q; cases q) m3⟩
noncomputable def OctJ (w : World) (top B1 : Led) (cF : Addr) (m₀ : Str → Option Value) (ts : List TagV) (n : Nat) (m : Str → Option Value) (nw : Led) : Prop :=
  m = m₀ ∧ ∃ oF x1 f1 x0 xr us tl, nw = (cF, oF) :: (top ++ (tl ++ B1)) ∧ (∀ p ∈ tl ++ B1, p.1 ≠ cF) ∧ (∀ q ∈ top, ∀ p ∈ tl ++ B1, p.1 ≠ q.1) ∧ oF.data = .cell (some (.ref x1)) ∧ IsFrm w (tl ++ B1) x1 f1 (x0 :: xr) ∧ TagsAt w (tl ++ B1) (x0 :: xr) us ∧ us.length ≤ 5 ∧ ts.length ≤ us.length ∧ us.drop (us.length - ts.length) = ts ∧ n = 5 - us.length
theorem IsFrm.dropX9 {w : World} {pre post : Led} {D x : Addr} {o : Obj} {f : FrameV} {xs : List Addr} (k : IsFrm w (pre ++ (D, o) :: post) x f xs) (h1 : o.cls ≠ .ref 264) (h2 : o.cls ≠ .type "dict") (h3 : o.cls ≠ .type "tuple") : IsFrm w (pre ++ post) x f xs := by
  obtain ⟨dx, tu, a, b, c, d, e, m1, m2, m3⟩ := k
  have go : ∀ {y : Addr} {u : Obj}, u.cls ≠ o.cls → (y, u) ∈ pre ++ (D, o) :: post → (y, u) ∈ pre ++ post := by
    intro y u hu hm
    rcases List.mem_append.mp hm with h | h
    · exact List.mem_append_left _ h
    · rcases List.mem_cons.mp h with h | h
      · cases h; exact absurd rfl hu
      · exact List.mem_append_right _ h
  exact ⟨dx, tu, a, b, c, d, e, go (fun q => h1 q.symm) m1, go (fun q => h2 q.symm) m2, go (fun q => h3 q.symm) m3⟩
section
theorem octets_fresh (w : World) (rest : Led) (src r x : Addr) (k : Nat) (a b : Int) (ta tb : Tok) (n : Nat) (tt tsr tk tp : Tok) (pb : Array UInt8) (xs ys : List Addr) (ts : List TagV) (ps : List Int) (hoff : ∀ p ∈ rest, p.1 ≠ src) (hs : src ≠ 427) (hn7 : ∀ q ∈ rest, q.1 ≠ 427) (ha : 0 ≤ a) (hb1 : 0 ≤ b) (hb2 : b < 2147483647)
    (hf : IsFrm w rest x (fv tt tsr tk tp pb) xs) (ht : TagsAt w rest xs ts) (hr : (r, ({ cls := .type "list", data := .seq (ys.map Value.ref).toArray k } : Obj)) ∈ rest) (hy : RowsAt rest ys ts) (hrow : ∀ t ∈ ts, RowOk t) (hn : ts.length ≤ 4) (hn1 : 1 ≤ ts.length) (hpb : KBw.bInts pb = ps) (hps : ps.length = 46) :
    CtrS w 432 90 1000 [.ref src, .ref r, .ref x] ((427, tabObj #[]) :: (src, srcObj a b ta tb n) :: rest) (fun R => ∀ k1 k2 z1 z2 a' b' ta' tb', (∀ q ∈ rest, @LT.lt Nat _ q.1 k1) → (∀ q ∈ rest, @LT.lt Nat _ q.1 k2) → CodeObj octQ z1 → CodeObj octQ z2 → 0 ≤ a' → 0 ≤ b' → b' < 2147483647 → R ((k2, z2) :: (k1, z1) :: (427, octTab k1 k2) :: (src, srcObj a' b' ta' tb' n) :: rest) (.bool true)) := by
  k_with_none
  w_top off
  k_with "k_mem" => first | assumption | exact List.mem_cons_self | (refine List.mem_cons_of_mem _ ?_; k_extra "k_mem") | (refine List.mem_append_right _ ?_; k_extra "k_mem") | (refine List.mem_append_left _ ?_; k_extra "k_mem")
  k_with "k_all" => assumption
  k_with "ktr_room" => ((try simp only [depth_under_make, depth_under_kw, depth_in1, depth_deeper, depth_caller]); (try dsimp only [ktrTop]); first | exact room0 (by with_reducible assumption) | exact room1 (by with_reducible assumption) rfl | exact room2 (by with_reducible assumption) rfl | exact room3 (by with_reducible assumption) rfl | exact Nat.le_of_ble_eq_true rfl | lia | omega)
  k_with "k_room" => ktr_room
  k_with "ktr_units" => ((try simp only [units_in1, units_deeper, Around.mark_units, units_caller]); (try dsimp only [ktrTop]); first | exact room0 (by with_reducible assumption) | exact room1 (by with_reducible assumption) rfl | exact room2 (by with_reducible assumption) rfl | exact room3 (by with_reducible assumption) rfl | exact Nat.le_of_ble_eq_true rfl | ((have hcL9 := cLine_is); (first | lia | omega)))
  k_with "k_enter" => (refine' code_defC ?k1_20 ?k2_20 ?k3_20 ?k4_20 ?k5_20 ?kA_20 ?kF_20 ?kK_20 ?k6_20 ?k7_20 ?k8_20 ?k9_20 ?kB_20 ?kD_20 ?_ ?c2_20 ?c3_20 ?c4_20; (case kA_20 => exact rfl); (case kF_20 => exact rfl); (case kK_20 => first | exact rfl | assumption); (case k1_20 => k_asm); (case k2_20 => k_asm); (case k3_20 => k_asm); (case k4_20 => k_asm); (case k5_20 => k_asm); (case k6_20 => k_is); (case k7_20 => k_is); (case k8_20 => k_room); (case k9_20 => first | exact BindsTo.of_eq rfl | exact binds_K (by k_in) rfl (by k_is) rfl rfl rfl | fail "k_enter: no rule for these arguments"); (case kB_20 => exact rfl); (case kD_20 => decide +kernel); (case c2_20 => exact rfl); (case c3_20 => exact rfl); (case c4_20 => exact rfl); k_whole; intro _ _ _ _ _ _ _ N' Y' B' _ _ l1; (try k_lt l1); k_cells Y'; (try simp only [List.cons_append, List.nil_append] at N'); (try dsimp only); (try k_lift B'); (try k_fold))
  k_with "k_enter" => (refine' code_def ?k1_0 ?k2_0 ?k3_0 ?k4_0 ?k5_0 ?kA_0 ?kF_0 ?kK_0 ?k6_0 ?k7_0 ?k8_0 ?k9_0 ?kB_0 ?_ ?c2_0 ?c3_0 ?c4_0 ?c5_0; (case kA_0 => exact rfl); (case kF_0 => exact rfl); (case kK_0 => first | exact rfl | assumption); (case k1_0 => k_asm); (case k2_0 => k_asm); (case k3_0 => k_asm); (case k4_0 => k_asm); (case k5_0 => k_asm); (case k6_0 => k_is); (case k7_0 => k_is); (case k8_0 => k_room); (case k9_0 => first | exact BindsTo.of_eq rfl | exact binds_K (by k_in) rfl (by k_is) rfl rfl rfl | fail "k_enter: no rule for these arguments"); (case c5_0 => decide); (case kB_0 => exact locs rfl); (case c2_0 => exact rfl); (case c3_0 => exact rfl); (case c4_0 => exact rfl); k_whole; intro _ _ _ _ _ _ B' _ _; (try dsimp only); (try k_lift B'); (try k_fold))
  k_with "o call type:tuple" => (k_here; (with_reducible show wpAny _ _ (call (Value.type _) [Value.ref _]) _ _ _); k_dflt (refine call_tuple_tup (News.isTup (by k_asm) (by k_extra "k_mem")) ?_))
  k_with "o call type:bytes" => (k_here; (with_reducible show wpAny _ _ (call (Value.type _) [Value.bytes _ _]) _ _ _); refine call_bytes_same ?_)
  k_with "o call type:tuple" => (k_here; (with_reducible show wpAny _ _ (call (Value.type _) [Value.ref _]) _ _ _); k_dflt (refine' tupleOf_ys ?F_18 ?N_18 ?hm_18 ?hz_18 ?_; (case F_18 => k_asm); (case N_18 => k_asm); (case hm_18 => k_extra "k_mem"); (case hz_18 => first | assumption | exact Nat.le_of_ble_eq_true rfl); k_whole); intro _ _ _ _ l1; (try k_lt l1); (try (revert l1; intro _)); (try k_sweep))
  k_with "o compareOp Eq ref ref" => (k_here; (with_reducible show wpAny _ _ (compareOp _ (Value.ref _) (Value.ref _)) _ _ _); k_dflt (refine' eq_tups_nil (by k_asm) ?ka_8 (by k_extra "k_mem") (by ktr_units) ?_; (case ka_8 => k_extra "k_mem")); (try simp only [reduceCtorEq, decide_false, decide_true, Bool.not_false, Bool.not_true]))
  k_with "o compareOp NotEq ref ref" => (k_here; (with_reducible show wpAny _ _ (compareOp _ (Value.ref _) (Value.ref _)) _ _ _); k_dflt (refine' ne_tups_nil (by k_asm) ?ka_9 (by k_extra "k_mem") (by ktr_units) ?_; (case ka_9 => k_extra "k_mem")); (try simp only [reduceCtorEq, decide_false, decide_true, Bool.not_false, Bool.not_true]))
  k_with "o subscriptTail" => (k_here; (with_reducible show wpAny _ _ (subscriptTail _ _ (Value.ref _) (Value.int 0 _)) _ _ _); k_dflt (refine item_ledT0 (News.isTup (by k_asm) (by k_extra "k_mem")) ?_))
  k_with "o subscriptTail" => (k_here; (with_reducible show wpAny _ _ (subscriptTail _ _ (Value.ref _) (Value.ref _)) _ _ _); k_dflt (refine' from_ledT1 ?F_13 ?N_13 ?ht_13 ?hz_13 ?_; (case F_13 => k_asm); (case N_13 => k_asm); (case ht_13 => k_extra "k_mem"); (case hz_13 => first | assumption | (simp only [List.length_map]; first | exact Nat.le_of_ble_eq_true rfl | lia | omega))); intro _ _ _ _ l1; (try k_lt l1); (try (revert l1; intro _)); (try k_sweep))
  k_with "o binaryOp Add ref ref" => (k_here; (with_reducible show wpAny _ _ (binaryOp _ (Value.ref _) (Value.ref _)) _ _ _); k_dflt (refine' add_ledTm ?F_14 ?N_14 ?ht_14 ?hb_14 ?hz_14 ?_; (case F_14 => k_asm); (case N_14 => k_asm); (case ht_14 => k_extra "k_mem"); (case hb_14 => k_extra "k_mem"); (case hz_14 => (simp only [List.length_map, List.length_nil]; first | exact Nat.le_of_ble_eq_true rfl | lia | omega))); intro _ _ _ _ _ _ _; (try k_sweep))
  k_with "o binaryOp Add ref ref" => (k_here; (with_reducible show wpAny _ _ (binaryOp _ (Value.ref _) (Value.ref _)) _ _ _); k_dflt (refine' add_ledT1 ?F_15 ?N_15 ?ht_15 ?hb_15 ?hz_15 ?_; (case F_15 => k_asm); (case N_15 => k_asm); (case ht_15 => k_extra "k_mem"); (case hb_15 => k_extra "k_mem"); (case hz_15 => (simp only [List.length_map, List.length_nil]; first | exact Nat.le_of_ble_eq_true rfl | lia | omega))); intro _ _ _ _ l1; (try k_lt l1); (try (revert l1; intro _)); (try k_sweep))
  k_with "o binaryOp Add ref ref" => (k_here; (with_reducible show wpAny _ _ (binaryOp _ (Value.ref _) (Value.ref _)) _ _ _); k_dflt (refine' add_ledT0 ?F_16 ?N_16 ?ht_16 ?hb_16 ?hz_16 ?_; (case F_16 => k_asm); (case N_16 => k_asm); (case ht_16 => k_extra "k_mem"); (case hb_16 => k_extra "k_mem"); (case hz_16 => (simp only [List.length_map, List.length_nil]; first | exact Nat.le_of_ble_eq_true rfl | lia | omega))))
  k_with "tbn_conj" => first | exact abv_nil | assumption | exact abv_one (by assumption) | (refine abv_next (by first | assumption | exact And.left (by assumption) | lia | omega) ?_; k_extra "tbn_conj") | exact abv_oneA (by first | assumption | exact And.right (by assumption) | exact And.right (And.right (by assumption))) | (refine abv_all (by assumption) ?_; k_extra "tbn_conj") | (refine abv_allA (by first | assumption | exact And.right (by assumption) | exact And.right (And.right (by assumption))) ?_; k_extra "tbn_conj") | (refine abv_allS (by assumption) (by simp only [List.cons_append, List.append_assoc, List.nil_append]) ?_; k_extra "tbn_conj") | (refine abv_app ?_ ?_ <;> k_extra "tbn_conj")
  k_with "o mem9" => (with_reducible first | exact List.mem_cons_self | (refine List.mem_cons_of_mem _ ?_; k_extra "o mem9") | (refine List.mem_append_right _ ?_; k_extra "o mem9") | (refine List.mem_append_left _ ?_; k_extra "o mem9") | assumption)
  k_with "o subv" => (with_reducible first | exact sub_rfl | exact sub_le | (refine sub_tl ?_; k_extra "o subv") | (refine sub_ri ?_; k_extra "o subv") | (refine sub_lf ?_; k_extra "o subv"))
  k_with "o sub9" => first | k_extra "o subv" | exact sub_nil | ((with_reducible refine sub_cons ?_ ?_); (k_extra "o mem9"); k_extra "o sub9") | ((with_reducible refine sub_app ?_ ?_); k_extra "o sub9"; k_extra "o sub9")
  k_with "o thin9" => first | exact all_nil | ((with_reducible refine all_cons ?_ ?_); (first | exact .inl (by k_extra "o mem9") | exact .inr (.inr rfl) | exact .inr (.inl rfl) | exact .inr (.inl ⟨_, by assumption⟩)); k_extra "o thin9") | ((with_reducible refine all_app ?_ ?_); k_extra "o thin9"; k_extra "o thin9") | ((with_reducible refine or_all ?_); k_extra "o subv")
  k_with "ktd_rel" => first | with_reducible assumption | ((with_reducible refine IsFrm.mono ?_ (by with_reducible assumption)); k_extra "o sub9") | ((with_reducible refine IsTag.mono ?_ (by with_reducible assumption)); k_extra "o sub9") | ((with_reducible refine TagsAt.mono ?_ (by with_reducible assumption)); k_extra "o sub9") | ((with_reducible refine RowsAt.mono ?_ (by with_reducible assumption)); k_extra "o sub9") | ((with_reducible refine' IsFrm.of ?q1_39 ?q2_39 ?q3_39); (case q1_39 => k_extra "k_mem"); (case q2_39 => k_extra "k_mem"); (case q3_39 => k_extra "k_mem")) | ((with_reducible refine' IsTag.of ?q1_39 ?q2_39); (case q1_39 => k_extra "k_mem"); (case q2_39 => k_extra "k_mem"))
  k_with "k_all" => first | (refine' allNe_of ?h1_45 ?h2_45; (case h1_45 => assumption); (case h2_45 => first | exact Nat.le_refl _ | exact Nat.le_succ _ | lia | omega)) | (refine' allNe_ofA ?h1_45 ?h2_45; (case h1_45 => assumption); (case h2_45 => first | exact Nat.le_refl _ | exact Nat.le_succ _ | lia | omega)) | (refine' allNe_ofA1 ?h1_45 ?h2_45; (case h1_45 => assumption); (case h2_45 => first | exact Nat.le_refl _ | exact Nat.le_succ _ | lia | omega)) | (refine' allNe_ofA2 ?h1_45 ?h2_45; (case h1_45 => assumption); (case h2_45 => first | exact Nat.le_refl _ | exact Nat.le_succ _ | lia | omega))
  k_with "k_enter" => (refine' codeTC ?k1_56 ?k2_56 ?k3_56 ?k4_56 ?k5_56 ?XB_56 ?TB_56 ?D_56 ?T0_56 ?kA_56 ?kF_56 ?kK_56 ?k6_56 ?k7_56 ?k8_56 ?k9_56 ?kB_56 ?kD_56 ?_ ?c2_56 ?c3_56 ?c4_56; (case kA_56 => exact rfl); (case kF_56 => exact rfl); (case kK_56 => first | exact rfl | assumption); (case k2_56 => assumption); (case k1_56 => assumption); (case XB_56 => assumption); (case TB_56 => assumption); (case D_56 => assumption); (case T0_56 => first | assumption | exact KtsTurn.refl); (case k3_56 => k_asm); (case k4_56 => k_asm); (case k5_56 => k_asm); (case k6_56 => k_is); (case k7_56 => k_is); (case k8_56 => k_room); (case k9_56 => first | exact BindsTo.of_eq rfl | exact binds_K (by k_in) rfl (by k_is) rfl rfl rfl | fail "k_enter: no rule for these arguments"); (case kB_56 => exact rfl); (case kD_56 => decide +kernel); (case c2_56 => exact rfl); (case c3_56 => exact rfl); (case c4_56 => exact rfl); k_whole; intro _ _ _ _ _ _ _ N' Y' B' _ _ l1 _; (try k_lt l1); k_cells Y'; (try simp only [List.cons_append, List.nil_append] at N'); (try dsimp only); (try k_lift B'); (try show wpAny _ _ _ _ _ _); (try k_fold))
  k_with "k_enter" => (refine' codeT ?k1_57 ?k2_57 ?k3_57 ?k4_57 ?k5_57 ?XB_57 ?TB_57 ?D_57 ?T0_57 ?kA_57 ?kF_57 ?kK_57 ?k6_57 ?k7_57 ?k8_57 ?k9_57 ?kB_57 ?_ ?c2_57 ?c3_57 ?c4_57 ?c5_57; (case kA_57 => exact rfl); (case kF_57 => exact rfl); (case kK_57 => first | exact rfl | assumption); (case k2_57 => assumption); (case k1_57 => assumption); (case XB_57 => assumption); (case TB_57 => assumption); (case D_57 => assumption); (case T0_57 => first | assumption | exact KtsTurn.refl); (case k3_57 => k_asm); (case k4_57 => k_asm); (case k5_57 => k_asm); (case k6_57 => k_is); (case k7_57 => k_is); (case k8_57 => k_room); (case k9_57 => first | exact BindsTo.of_eq rfl | exact binds_K (by k_in) rfl (by k_is) rfl rfl rfl | fail "k_enter: no rule for these arguments"); (case c5_57 => decide); (case kB_57 => exact locs rfl); (case c2_57 => exact rfl); (case c3_57 => exact rfl); (case c4_57 => exact rfl); k_whole; intro _ _ _ _ _ _ B' _ _ _; (try dsimp only); (try k_lift B'); (try show wpAny _ _ _ _ _ _); (try k_fold))
  k_with "o LeaveT" => (k_dflt (refine' leaveT_ ?F_58 ?N_58 ?T_58 ?_; (case F_58 => assumption); (case N_58 => assumption); (case T_58 => first | assumption | exact KtsTurn.refl); k_whole); intro _ _ _ _ kB _ _ _; (try k_lift kB); (try dsimp only))
  k_with "o callWith ref" => (k_here; k_dflt (refine' callWith_K ?k1_70 ?k2_70 ?_; (case k1_70 => k_asm); (case k2_70 => k_is); k_whole))
  k_with "o subscriptTail" => (k_here; (with_reducible show wpAny _ _ (subscriptTail _ _ (Value.ref _) (Value.int _ _)) _ _ _); k_dflt (refine' item_tupleT ?t_105 ?a_105 ?b_105 ?c_105 ?d_105 ?_; (case t_105 => exact News.isTup (by k_asm) (by first | exact List.mem_append_left _ (by with_reducible assumption) | with_reducible k_extra "k_mem")); (case a_105 => decide); (case b_105 => decide); (case c_105 => rfl); (case d_105 => rfl); k_whole))
  k_with "o subscriptTail" => (k_here; (with_reducible show wpAny _ _ (subscriptTail _ _ (Value.ref _) (Value.int (Int.ofNat _) _)) _ _ _); k_dflt (refine' item_lstI ?N_89 ?hm_89 ?hx_89 ?hz_89 ?_; (case N_89 => k_asm); (case hm_89 => with_reducible k_extra "k_mem"); (case hx_89 => assumption); (case hz_89 => first | exact Nat.le_of_ble_eq_true rfl | lia | omega)))
  k_with "o subscriptTail" => (k_here; (with_reducible show wpAny _ _ (subscriptTail _ _ (Value.ref _) (Value.int (Nat.cast _) _)) _ _ _); k_dflt (refine' item_lstI ?N_90 ?hm_90 ?hx_90 ?hz_90 ?_; (case N_90 => k_asm); (case hm_90 => with_reducible k_extra "k_mem"); (case hx_90 => assumption); (case hz_90 => first | exact Nat.le_of_ble_eq_true rfl | lia | omega)))
  k_with "o subscriptTail Name Slice ref ref" => (k_here; k_dflt (refine' from_lstI ?F_91 ?N_91 ?hm_91 ?hz_91 ?hw_91 ?_; (case F_91 => k_asm); (case N_91 => k_asm); (case hm_91 => with_reducible k_extra "k_mem"); (case hz_91 => first | exact Nat.le_of_ble_eq_true rfl | lia | omega); (case hw_91 => assumption)); intro _ _ _ _ l1; (try k_lt l1); (try (revert l1; intro _)); (try k_sweep))
  k_with "o call type:tuple" => (k_here; (with_reducible show wpAny _ _ (call (Value.type _) [Value.ref _]) _ _ _); k_dflt (refine' tupleOf_ys ?F_92 ?N_92 ?hm_92 ?hz_92 ?_; (case F_92 => k_asm); (case N_92 => k_asm); (case hm_92 => with_reducible k_extra "k_mem"); (case hz_92 => assumption); k_whole); intro _ _ _ _ l1; (try k_lt l1); (try (revert l1; intro _)); (try k_sweep))
  k_with "o compareOp NotEq ref ref" => (k_here; refine stop_of ?_)
  k_with "o zz" => (k_here; k_dflt (refine' ne_tups (n := 1) ?N_93 ?ha_93 ?hb_93 ?r_93 ?hu_93 ?_; (case N_93 => k_asm); (case ha_93 => with_reducible k_extra "k_mem"); (case hb_93 => with_reducible k_extra "k_mem"); (case hu_93 => ktr_units); (case r_93 => refine' ne_rows ?hx_93 ?hd_93 ?hy_93; (case hx_93 => k_extra "ktd_rel"); (case hd_93 => with_reducible k_extra "k_mem"); (case hy_93 => k_extra "ktd_rel"))))
  k_with "o call builtin:len" => (k_here; (with_reducible show wpAny _ _ (call (Value.builtin _) [Value.ref _]) _ _ _); k_dflt (refine len_led (News.isList (by k_asm) (by with_reducible k_extra "k_mem")) (by (first | lia | omega)) ?_))
  k_with "o call builtin:len" => (k_here; (with_reducible show wpAny _ _ (call (Value.builtin _) [Value.ref _]) _ _ _); k_dflt (refine len_ledT (News.isTup (by k_asm) (by with_reducible k_extra "k_mem")) (by (first | lia | omega)) ?_))
  k_with "o storeName" => (k_here; (with_reducible show wpAny _ _ (storeName (envX _ _ _ _ _ _) (Str.ofString "frame") _) _ _ _); refine stop_of ?_)
  k_with "o storeName" => (k_here; (with_reducible show wpAny _ _ (storeName (envX _ _ _ _ _ _) (Str.ofString "wrong") _) _ _ _); refine stop_of ?_)
  k_with "o subscriptTail Call" => (k_here; k_dflt (refine kba_turn (value' := PySem.Expr.Name (PySem.Str.ofString "_") ⟨0, 0, 0, 0⟩) (fun _ => rfl) ?_))
  k_with "o subscriptTail Subscript" => (k_here; k_dflt (refine kba_turn (value' := PySem.Expr.Name (PySem.Str.ofString "_") ⟨0, 0, 0, 0⟩) (fun _ => rfl) ?_))
  k_with "o subscriptTail Attribute" => (k_here; k_dflt (refine kba_turn (value' := PySem.Expr.Name (PySem.Str.ofString "_") ⟨0, 0, 0, 0⟩) (fun _ => rfl) ?_))
  k_with "o compareOp Eq ref ref" => (k_here; refine stop_of ?_)
  k_with "o subscriptTail Name Constant ref int" => (k_here; (with_reducible show wpAny _ _ (subscriptTail _ _ (Value.ref _) (Value.int _ _)) _ _ _); k_dflt (refine' item_tupleT ?t_106 ?a_106 ?b_106 ?c_106 ?d_106 ?_; (case t_106 => exact News.isTup (by k_asm) (by first | exact List.mem_append_left _ (by with_reducible assumption) | with_reducible assumption | with_reducible k_extra "k_mem")); (case a_106 => decide); (case b_106 => decide); (case c_106 => rfl); (case d_106 => rfl); k_whole))
  k_with "o last subscriptTail" => (k_here; (with_reducible show wpAny _ _ (subscriptTail _ (PySem.Expr.Slice (some _) none none _) (Value.ref _) (Value.ref _)) _ _ _); k_dflt (refine' from_ledR ?F_107 ?N_107 ?hm_107 ?hi_107 ?h1_107 ?ha_107 ?hz_107 ?_; (case F_107 => k_asm); (case N_107 => k_asm); (case hm_107 => with_reducible k_extra "k_mem"); (case hi_107 => assumption); (case h1_107 => (first | lia | omega)); (case ha_107 => (rw [RowsAt.length (by assumption)]; first | exact Nat.le_of_ble_eq_true rfl | lia | omega)); (case hz_107 => (rw [RowsAt.length (by assumption)]; first | exact Nat.le_of_ble_eq_true rfl | lia | omega))); intro _ _ _ _ l1; (try k_lt l1); (try (revert l1; intro _)); (try k_sweep))
  k_with "o subscriptTail" => (k_here; (with_reducible show wpAny _ _ (subscriptTail _ (PySem.Expr.Slice (some _) none none _) (Value.ref _) (Value.ref _)) _ _ _); k_dflt (refine' from_ledR ?F_107 ?N_107 ?hm_107 ?hi_107 ?h1_107 ?ha_107 ?hz_107 ?_; (case F_107 => k_asm); (case N_107 => k_asm); (case hm_107 => with_reducible k_extra "k_mem"); (case hi_107 => assumption); (case h1_107 => (first | lia | omega)); (case ha_107 => (rw [RowsAt.length (by assumption)]; first | exact Nat.le_of_ble_eq_true rfl | lia | omega)); (case hz_107 => (rw [RowsAt.length (by assumption)]; first | exact Nat.le_of_ble_eq_true rfl | lia | omega))); intro _ _ _ _ l1; (try k_lt l1); (try (revert l1; intro _)); (try k_sweep))
  k_with "o call ref" => (k_here; (with_reducible show wpAny _ _ (call (Value.ref 406) _) _ _ _); refine stop_of ?_)
  k_with "o call ref" => (k_here; (with_reducible show wpAny _ _ (call (Value.ref 406) _) _ _ _); k_dflt (refine' CtrS.use (refused_x _ _ _ 56 44 500 _ _ _ _ ?hq_108 ?hc_108 ?hC_108) ?k1_108 ?k2_108 ?k3_108 ?k4_108 ?k5_108 ?XB_108 ?TB_108 ?D_108 ?T0_108 ?H1_108 ?H2_108 ?kK_108 ?kd_108 ?ku_108 ?_; (case k2_108 => k_asm); (case k1_108 => assumption); (case k3_108 => k_asm); (case k4_108 => k_asm); (case k5_108 => k_asm); (case XB_108 => assumption); (case TB_108 => assumption); (case D_108 => assumption); (case T0_108 => first | assumption | exact KtsTurn.refl); (case H1_108 => assumption); (case H2_108 => assumption); (case kK_108 => first | exact rfl | assumption); (case kd_108 => ktr_room); (case ku_108 => ktr_units); (case hq_108 => with_reducible k_extra "k_mem"); (case hC_108 => with_unfolding_all exact rfl); (case hc_108 => first | (refine' lam_pack5 _ _ _ _ _ _ _ _ _ _ _ _ _ _ _ _ _ ⟨0, 0, 0, 0⟩ _ _ ?h1_108 ?h2_108 ?hd_108 ?hv_108 ?h3_108 ?ho_108 ?hf_108 ?hn_108; (case h1_108 => with_reducible k_extra "k_mem"); (case h2_108 => with_reducible k_extra "k_mem"); (case hd_108 => assumption); (case hv_108 => assumption); (case h3_108 => with_reducible k_extra "k_mem"); (case ho_108 => assumption); (case hf_108 => k_extra "ktd_rel"); (case hn_108 => assumption)) | (refine' lam_pack1 _ _ _ _ _ _ _ _ _ _ _ _ _ _ _ _ _ ⟨0, 0, 0, 0⟩ _ _ _ _ _ _ _ ?h1_108 ?h2_108 ?hd_108 ?hv_108 ?h3_108 ?ho_108 ?hf_108 ?ht_108 ?hb_108; (case h1_108 => with_reducible k_extra "k_mem"); (case h2_108 => with_reducible k_extra "k_mem"); (case hd_108 => assumption); (case hv_108 => assumption); (case h3_108 => with_reducible k_extra "k_mem"); (case ho_108 => assumption); (case hf_108 => k_extra "ktd_rel"); (case ht_108 => k_extra "ktd_rel"); (case hb_108 => assumption))); k_whole; intros; (try dsimp only); (try k_fold)))
  k_with "o call ref" => (k_here; (with_reducible show wpAny _ _ (call (Value.ref 387) _) _ _ _); refine stop_of ?_)
  k_with "o call ref" => (k_here; (with_reducible show wpAny _ _ (call (Value.ref 399) _) _ _ _); refine stop_of ?_)
  k_with "o call ref" => (k_here; (with_reducible show wpAny _ _ (call (Value.ref 399) _) _ _ _); k_dflt (refine' Ctr.use (law_frame0_ok _ _ _ _ ?kc_109 _ _) ?k1_109 ?k2_109 ?k3_109 ?k4_109 ?k5_109 ?kK_109 ?kd_109 ?ku_109 ?_; (case k1_109 => k_asm); (case k2_109 => k_asm); (case k3_109 => k_asm); (case k4_109 => k_asm); (case k5_109 => k_asm); (case kK_109 => first | exact rfl | assumption); (case kd_109 => ktr_room); (case ku_109 => ktr_units); (case kc_109 => with_reducible k_extra "k_mem"); k_whole; intros; (try dsimp only); (try k_sweep); (try k_fold)))
  k_with "o call ref" => (k_here; (with_reducible show wpAny _ _ (call (Value.ref 230) _) _ _ _); refine stop_of ?_)
  k_with "o call ref" => (k_here; (with_reducible show wpAny _ _ (call (Value.ref 230) _) _ _ _); k_dflt (refine' Ctr.use (tag_new _ _ ⟨_, _, _, _, _, _, _⟩) ?k1_19 ?k2_19 ?k3_19 ?k4_19 ?k5_19 ?kK_19 ?kd_19 ?ku_19 ?_; (case k1_19 => k_asm); (case k2_19 => k_asm); (case k3_19 => k_asm); (case k4_19 => k_asm); (case k5_19 => k_asm); (case kK_19 => first | exact rfl | assumption); (case kd_19 => ktr_room); (case ku_19 => ktr_units); k_whole; intros; (try dsimp only); (try k_sweep); (try k_fold)))
  k_with "o call ref" => (k_here; (with_reducible show wpAny _ _ (call (Value.ref 324) _) _ _ _); refine stop_of ?_)
  k_with "o call ref" => (k_here; (with_reducible show wpAny _ _ (call (Value.ref 324) _) _ _ _); k_dflt (refine' Ctr.use (pushed1_ok _ _ _ _ _ _ _ ?kc_110 ?kz_110) ?k1_110 ?k2_110 ?k3_110 ?k4_110 ?k5_110 ?kK_110 ?kd_110 ?ku_110 ?_; (case k1_110 => k_asm); (case k2_110 => k_asm); (case k3_110 => k_asm); (case k4_110 => k_asm); (case k5_110 => k_asm); (case kK_110 => first | exact rfl | assumption); (case kd_110 => ktr_room); (case ku_110 => ktr_units); (case kc_110 => k_extra "ktd_rel"); (case kz_110 => first | exact Nat.le_of_ble_eq_true rfl | lia | omega); k_whole; intros; (try dsimp only); (try k_sweep); (try k_fold)))
  k_with "o call ref" => (k_here; (with_reducible show wpAny _ _ (call (Value.ref 324) _) _ _ _); k_dflt (refine' Ctr.use (pushed0_ok _ _ _ _ _ ?kc_111) ?k1_111 ?k2_111 ?k3_111 ?k4_111 ?k5_111 ?kK_111 ?kd_111 ?ku_111 ?_; (case k1_111 => k_asm); (case k2_111 => k_asm); (case k3_111 => k_asm); (case k4_111 => k_asm); (case k5_111 => k_asm); (case kK_111 => first | exact rfl | assumption); (case kd_111 => ktr_room); (case ku_111 => ktr_units); (case kc_111 => k_extra "ktd_rel"); k_whole; intros; (try dsimp only); (try k_sweep); (try k_fold)))
  k_with "o call ref" => (k_here; (with_reducible show wpAny _ _ (call (Value.ref 288) _) _ _ _); refine stop_of ?_)
  k_with "o call ref" => (k_here; (with_reducible show wpAny _ _ (call (Value.ref 288) _) _ _ _); k_dflt (refine' Ctr.use (pack_frame_ok _ _ _ _ _ _ _ _ _ _ _ ?c1_112 ?c2_112 ?c3_112 ?c4_112 ?c5_112 ?c6_112 ?c7_112) ?k1_112 ?k2_112 ?k3_112 ?k4_112 ?k5_112 ?kK_112 ?kd_112 ?ku_112 ?_; (case k1_112 => k_asm); (case k2_112 => k_asm); (case k3_112 => k_asm); (case k4_112 => k_asm); (case k5_112 => k_asm); (case kK_112 => first | exact rfl | assumption); (case kd_112 => ktr_room); (case ku_112 => ktr_units); (case c1_112 => k_extra "ktd_rel"); (case c2_112 => k_extra "ktd_rel"); (case c3_112 => assumption); (case c4_112 => assumption); (case c5_112 => assumption); (case c6_112 => assumption); (case c7_112 => assumption); k_whole; intros; (try dsimp only); (try k_sweep); (try k_fold)))
  k_with "o call ref" => (k_here; (with_reducible show wpAny _ _ (call (Value.ref 310) _) _ _ _); refine stop_of ?_)
  k_with "o call ref" => (k_here; (with_reducible show wpAny _ _ (call (Value.ref 310) _) _ _ _); k_dflt (refine' Ctr.use (unpack_frame_ok _ _ _ _ _ _ ?c1_113 ?c2_113 ?c3_113 ?c4_113 ?c5_113) ?k1_113 ?k2_113 ?k3_113 ?k4_113 ?k5_113 ?kK_113 ?kd_113 ?ku_113 ?_; (case k1_113 => k_asm); (case k2_113 => k_asm); (case k3_113 => k_asm); (case k4_113 => k_asm); (case k5_113 => k_asm); (case kK_113 => first | exact rfl | assumption); (case kd_113 => ktr_room); (case ku_113 => ktr_units); (case c1_113 => assumption); (case c2_113 => assumption); (case c3_113 => assumption); (case c4_113 => assumption); (case c5_113 => assumption); k_whole; intros; (try dsimp only); (try k_sweep); (have hfr8 := (by with_reducible assumption : IsFrm _ _ _ _ _)); (rcases hfr8 with ⟨_, _, _, _, _, _, _, _, _, _⟩); (try k_fold)))
  k_with "o call ref" => (k_here; (with_reducible show wpAny _ _ (call (Value.ref 253) _) _ _ _); refine stop_of ?_)
  k_with "o call ref" => (k_here; (with_reducible show wpAny _ _ (call (Value.ref 253) _) _ _ _); k_dflt (refine' Ctr.use (frame_told _ _ _ _ _ _ ?kc_114 ?kt_114 ?kn_114) ?k1_114 ?k2_114 ?k3_114 ?k4_114 ?k5_114 ?kK_114 ?kd_114 ?ku_114 ?_; (case k1_114 => k_asm); (case k2_114 => k_asm); (case k3_114 => k_asm); (case k4_114 => k_asm); (case k5_114 => k_asm); (case kK_114 => first | exact rfl | assumption); (case kd_114 => ktr_room); (case ku_114 => ktr_units); (case kc_114 => k_extra "ktd_rel"); (case kt_114 => k_extra "ktd_rel"); (case kn_114 => first | lia | omega | exact Nat.le_of_ble_eq_true rfl | (rw [← SameTags.length (by assumption)]; first | exact Nat.le_of_ble_eq_true rfl | lia | omega)); k_whole; intros; (try dsimp only); (try k_sweep); (try k_fold)))
  k_with "o exec While Compare cons nil" => (k_here; refine stop_of ?_)
  intro pr loose mean mg mb dp un gd cn cs ad ccd cl outer A₀ base h₀ g₀ L m s Q E B F X N T XB TB D T0 H1 H2 hk hd' hu hret
  have hxl : xs.length = ts.length := ht.length
  have hyl : ys.length = ts.length := hy.length
  have hyl2 : (ys.map Value.ref).length = ts.length := by rw [List.length_map, hyl]
  have hf0 := hf
  obtain ⟨dx, tu0, a9, b9, c9, d9, e9, hx, hdx, htu⟩ := hf0
  
  k_steps
  unfold Stop
  rename_i n1 n2 n3 n4 n5 n7 n8 n9 n11 n12 n13 n14 n15 n16 n17 n18 n19 n20 n21 n22 n23 n24 n25 n26 n27 n28 n29 n30 n31 n32 n33 n34 n35 n36 n37 n38 n39 n40 n41 n42 n43 n44 n45 n46 n47 n48 n49 n50 n51 n52 n53 n54 n55 n56 n57 n58 n59 n60 n61 n62 n63 n64 n65 n66 n67 n68 n69 n70 n71
  have epb := bInts_inj (n33.trans hpb.symm)
  subst epb
  refine' ne_tups (n := 2) ?N ?ha ?hb ?r ?hu ?_
  (case N => k_asm)
  (case ha => with_reducible k_extra "k_mem")
  (case hb => with_reducible k_extra "k_mem")
  (case hu => ktr_units)
  (case r => refine' told_eqvS ?hT ?hU ?hx ?hy ?hs; (case hT => with_reducible k_extra "k_mem"); (case hU => with_reducible k_extra "k_mem"); (case hx => k_extra "ktd_rel"); (case hy => k_extra "ktd_rel"); (case hs => assumption))
  have nn := news_subX (l := (n2 + 1, n12) :: ([(427, tabObj #[])] ++ ([] ++ ((n2 + 1 + 1, n11) :: (src, srcObj a b ta tb n) :: rest)))) n71 (by k_extra "o sub9")
  clear n71 n67 n66 n65 n64 n63 n58 n57 n54 n53 n52 n51 n50 n43 n42 n41 n33 n32 n31 n30 n29 n17
  k_steps
  unfold Stop
  have hcF : n12.data = .cell (some (.ref x)) := n14
  have hcW : n11.data = .cell none := n13
  clear n13 n14
  obtain ⟨x0, xr, rfl⟩ : ∃ x0 xr, xs = x0 :: xr := by
    cases xs with
    | nil => rw [List.length_nil] at hxl; (first | lia | omega)
    | cons x0 xr => exact ⟨x0, xr, rfl⟩
  have hB : ∀ p ∈ [] ++ ((n2 + 1 + 1, n11) :: (src, srcObj a b ta tb n) :: rest), p.1 ≠ n2 + 1 := by
    refine all_cons ?_ ?_
    · exact Nat.succ_ne_self _
    refine all_cons ?_ ?_
    · exact Nat.ne_of_lt (Nat.lt_succ_of_lt l1.2.1)
    · intro p hp
      exact Nat.ne_of_lt (Nat.lt_succ_of_lt (allLt_all l1.2.2 p hp))
  have hB7 : ∀ q ∈ ([(427, tabObj #[])] : Led), ∀ p ∈ [] ++ ((n2 + 1 + 1, n11) :: (src, srcObj a b ta tb n) :: rest), p.1 ≠ q.1 := by
    intro q hq
    obtain rfl := List.mem_singleton.mp hq
    refine all_cons ?_ ?_
    · exact Nat.ne_of_gt (Nat.lt_succ_of_lt (Nat.lt_succ_of_lt l1.1))
    refine all_cons ?_ ?_
    · exact hs
    · intro p hp
      exact hn7 p hp
  have hup : ∀ p ∈ rest, p ∈ [] ++ ((n2 + 1 + 1, n11) :: (src, srcObj a b ta tb n) :: rest) := fun p hp => List.mem_cons_of_mem _ (List.mem_cons_of_mem _ hp)
  refine While_inv (OctJ w [(427, tabObj #[])] ((n2 + 1 + 1, n11) :: (src, srcObj a b ta tb n) :: rest) (n2 + 1) _ ts) n70 nn ⟨rfl, n12, x, _, x0, xr, ts, [], rfl, hB, hB7, hcF, hf.mono hup, ht.mono hup, by (first | lia | omega), Nat.le_refl _, by rw [Nat.sub_self]; rfl, rfl⟩ ?_
  rintro n' m1 nw h1 tk1 F1 N1 ⟨rfl, oF, x1, f1, x0', xr', us, tl, rfl, off, off7, hoF, hf1, ht1, h5, hle, hdr, rfl⟩
  dsimp only [List.cons_append, List.nil_append] at N1
  have hi9 : (5 : Int) - ((ys.map Value.ref).length : Int) = ((5 - ts.length : Nat) : Int) := by rw [hyl2]; (first | lia | omega)
  have hz9 : (ys.map Value.ref).length ≤ 16384 := by (first | lia | omega)
  have hf2 := hf1
  obtain ⟨dx1, tu1, a1, b1, c1, d1, e1, hx1, hdx1, htu1⟩ := hf2
  have hl1 : ((x0' :: xr').map Value.ref).length = us.length := by rw [List.length_map, ht1.length]
  have hz1 : xr'.length ≤ 4000 := by
    have := ht1.length
    rw [List.length_cons] at this; (first | lia | omega)
  clear n70 nn
  by_cases hlt : us.length < 5
  · k_steps
    rename_i tk9 y9 dy9 ya yb yc ye hy9 hdy9 h2 tk2 F2 N2 tl2 x2 tp2 hA2 hF2 h3 tk3 F3 N3
    obtain ⟨t0, ht0⟩ : ∃ t0 : TagV, t0 = ⟨34984, tk, 1, tk + 1, false, 1, tk + 1 + 1⟩ := ⟨_, rfl⟩
    rw [← ht0] at N3 hF2 hA2
    have hoff3 : ∀ p ∈ (tl2 ++ ((y9, instObj 230 dy9) :: (dy9, tagDict w t0 ya yb yc ye) :: tl)) ++ ((n2 + 1 + 1, n11) :: (src, srcObj a b ta tb n) :: rest), p.1 ≠ n2 + 1 := by
      rw [List.append_assoc]
      refine all_app ?_ ?_
      · intro p hp
        exact Nat.ne_of_gt (hA2 _ (List.mem_cons_of_mem _ (List.mem_cons_of_mem _ List.mem_cons_self)) p hp)
      refine all_cons ?_ ?_
      · exact Nat.ne_of_gt (Nat.lt_trans (hy9 _ List.mem_cons_self) hdy9)
      refine all_cons ?_ ?_
      · exact Nat.ne_of_gt (hy9 _ List.mem_cons_self)
      · intro p hp
        exact off p hp
    have hoff7 : ∀ q ∈ ([(427, tabObj #[])] : Led), ∀ p ∈ (tl2 ++ ((y9, instObj 230 dy9) :: (dy9, tagDict w t0 ya yb yc ye) :: tl)) ++ ((n2 + 1 + 1, n11) :: (src, srcObj a b ta tb n) :: rest), p.1 ≠ q.1 := by
      intro q hq
      obtain rfl := List.mem_singleton.mp hq
      rw [List.append_assoc]
      refine all_app ?_ ?_
      · intro p hp
        exact Nat.ne_of_gt (hA2 _ (List.mem_cons_of_mem _ (List.mem_cons_of_mem _ (List.mem_cons_of_mem _ List.mem_cons_self))) p hp)
      refine all_cons ?_ ?_
      · exact Nat.ne_of_gt (Nat.lt_trans (hy9 _ (List.mem_cons_of_mem _ List.mem_cons_self)) hdy9)
      refine all_cons ?_ ?_
      · exact Nat.ne_of_gt (hy9 _ (List.mem_cons_of_mem _ List.mem_cons_self))
      · intro p hp
        exact off7 _ (List.mem_singleton.mpr rfl) p hp
    have hF3 : IsFrm w ((tl2 ++ ((y9, instObj 230 dy9) :: (dy9, tagDict w t0 ya yb yc ye) :: tl)) ++ ((n2 + 1 + 1, n11) :: (src, srcObj a b ta tb n) :: rest)) x2 { f1 with tp := tp2 } (y9 :: x0' :: xr') := by
      have e : tl2 ++ (y9, instObj 230 dy9) :: (dy9, tagDict w t0 ya yb yc ye) :: (n2 + 1, oF) :: (427, tabObj #[]) :: (tl ++ ((n2 + 1 + 1, n11) :: (src, srcObj a b ta tb n) :: rest)) = (tl2 ++ [(y9, instObj 230 dy9), (dy9, tagDict w t0 ya yb yc ye)]) ++ (n2 + 1, oF) :: (427, tabObj #[]) :: (tl ++ ((n2 + 1 + 1, n11) :: (src, srcObj a b ta tb n) :: rest)) := by simp only [List.append_assoc, List.cons_append, List.nil_append]
      rw [e] at hF2
      have := hF2.dropC hoF
      have := this.dropX9 (by decide) (by decide) (by decide)
      simpa only [List.append_assoc, List.cons_append, List.nil_append] using this
    refine' storeX_C F3 (news_subX (l := (n2 + 1, oF) :: ([(427, tabObj #[])] ++ ((tl2 ++ ((y9, instObj 230 dy9) :: (dy9, tagDict w t0 ya yb yc ye) :: tl)) ++ ((n2 + 1 + 1, n11) :: (src, srcObj a b ta tb n) :: rest)))) N3 ?sub) ?lk (.head ?off8) hoF ?_ ?ka ?kb
    (case sub =>
      k_extra "o sub9")
    (case lk => rfl)
    (case off8 =>
      refine all_cons ?_ ?_
      · exact Nat.ne_of_lt (Nat.lt_succ_of_lt l1.1)
      · intro p hp
        exact hoff3 p hp)
    (case ka => rfl)
    (case kb => rfl)
    intro h4 o4 F4 N4 hd4
    k_steps
    refine WhileStep.intro F4 N4 (n' := 5 - (us.length + 1)) (by (first | lia | omega)) ⟨rfl, o4, x2, _, y9, x0' :: xr', t0 :: us, (tl2 ++ ((y9, instObj 230 dy9) :: (dy9, tagDict w t0 ya yb yc ye) :: tl)), rfl, hoff3, hoff7, hd4, hF3, ⟨?t1, ?t2⟩, by rw [List.length_cons]; (first | lia | omega), by rw [List.length_cons]; (first | lia | omega), ?dr, by rw [List.length_cons]⟩
    · exact ⟨dy9, ya, yb, yc, ye, by simp, by simp⟩
    · exact ht1.mono fun q hq => by
        rw [List.append_assoc]
        exact List.mem_append_right _ (List.mem_cons_of_mem _ (List.mem_cons_of_mem _ hq))
    · rw [List.length_cons, Nat.succ_sub hle, List.drop_succ_cons]; exact hdr
  · k_steps
    unfold Stop
    rename_i q1 tlT yT TT rowsT qn qa qy qT qR h9 k9 D1 h10 l10 D2 h11 F11 N11 l11
    have e5 : us.length = 5 := by (first | lia | omega)
    rw [e5] at hdr
    have hx5 : (x0' :: xr').length = 5 := by rw [ht1.length, e5]
    have hRd := RowsAt.drop (5 - ts.length) qR
    rw [hdr] at hRd
    refine' ne_tups (n := 1) ?N ?ha ?hb ?r ?hu ?_
    (case N => k_asm)
    (case ha => with_reducible k_extra "k_mem")
    (case hb => with_reducible k_extra "k_mem")
    (case hu => ktr_units)
    (case r => refine' rows_eqv ?hx ?hy; (case hx => k_extra "ktd_rel"); (case hy => k_extra "ktd_rel"))
    have nn := news_subX (l := (427, tabObj #[]) :: (n2 + 1, oF) :: (tl ++ ((n2 + 1 + 1, n11) :: (src, srcObj a b ta tb n) :: rest))) N11 (by k_extra "o sub9")
    clear N11 l11 l10 hRd qR qT qy qa qn
    have h427 : ∀ p ∈ (n2 + 1, oF) :: (tl ++ ((n2 + 1 + 1, n11) :: (src, srcObj a b ta tb n) :: rest)), p.1 ≠ 427 := by
      refine all_cons ?_ ?_
      · exact Nat.ne_of_gt (Nat.lt_succ_of_lt l1.1)
      · intro p hp
        exact off7 _ (List.mem_singleton.mpr rfl) p hp
    k_steps
    unfold Stop
    rename_i ff cc oc vs5 t5a ct ha9 tkb FO NO cd1 cd2 lc lcf g9 h8a tkc KT9 B9 X9 T9 DD9 D6 h27 lt6 D5 h26 lt5 D4 h25 lt4 D3 h24 lt3 D2 h23 lt2 D1 h22 lt1 D0 h21 lt0 lv h20 FF NN ltl
    have s6 : @LT.lt Nat _ src D6 := allLt_all lt6.2.2.2.2 (src, srcObj a b ta tb n) (List.mem_append_right _ (List.mem_cons_of_mem _ List.mem_cons_self))
    have s5 : @LT.lt Nat _ src D5 := Nat.lt_trans s6 lt5.1
    have s4 : @LT.lt Nat _ src D4 := Nat.lt_trans s5 lt4.1
    have s3 : @LT.lt Nat _ src D3 := Nat.lt_trans s4 lt3.1
    have s2 : @LT.lt Nat _ src D2 := Nat.lt_trans s3 lt2.1
    have s1 : @LT.lt Nat _ src D1 := Nat.lt_trans s2 lt1.1
    have s0 : @LT.lt Nat _ src D0 := Nat.lt_trans s1 lt0.1
    have sl : @LT.lt Nat _ src lv := Nat.lt_trans s0 ltl.1
    have w6 : @LT.lt Nat _ (n2 + 1 + 1) D6 := allLt_all lt6.2.2.2.2 (n2 + 1 + 1, n11) (List.mem_append_right _ List.mem_cons_self)
    have w5 : @LT.lt Nat _ (n2 + 1 + 1) D5 := Nat.lt_trans w6 lt5.1
    have w4 : @LT.lt Nat _ (n2 + 1 + 1) D4 := Nat.lt_trans w5 lt4.1
    have w3 : @LT.lt Nat _ (n2 + 1 + 1) D3 := Nat.lt_trans w4 lt3.1
    have w2 : @LT.lt Nat _ (n2 + 1 + 1) D2 := Nat.lt_trans w3 lt2.1
    have w1 : @LT.lt Nat _ (n2 + 1 + 1) D1 := Nat.lt_trans w2 lt1.1
    have w0 : @LT.lt Nat _ (n2 + 1 + 1) D0 := Nat.lt_trans w1 lt0.1
    obtain ⟨t0, hb0, m0⟩ : ∃ t, Bad t ∧ InN NN (D0, rowObj t) := by
      refine ⟨⟨33024, ?ta0, 0, ?tb0, false, -1, ?tc0⟩, ?hb0, ?hm0⟩
      case hm0 => (show _ ∈ _; with_reducible k_extra "k_mem")
      case hb0 => exact .inr (.inr ⟨.inl rfl, ⟨by dsimp only; decide, by dsimp only; decide⟩, .inl (by dsimp only; decide)⟩)
    obtain ⟨t1, hb1', m1⟩ : ∃ t, Bad t ∧ InN NN (D1, rowObj t) := by
      refine ⟨⟨34984, ?ta1, 0, ?tb1, false, 4096, ?tc1⟩, ?hb1, ?hm1⟩
      case hm1 => (show _ ∈ _; with_reducible k_extra "k_mem")
      case hb1 => exact .inr (.inr ⟨.inr rfl, ⟨by dsimp only; decide, by dsimp only; decide⟩, .inr ⟨by dsimp only; decide, by dsimp only; decide⟩⟩)
    obtain ⟨t2, hb2', m2⟩ : ∃ t, Bad t ∧ InN NN (D2, rowObj t) := by
      refine ⟨⟨34984, ?ta2, 7, ?tb2, true, 4095, ?tc2⟩, ?hb2, ?hm2⟩
      case hm2 => (show _ ∈ _; with_reducible k_extra "k_mem")
      case hb2 => exact .inr (.inr ⟨.inr rfl, ⟨by dsimp only; decide, by dsimp only; decide⟩, .inr ⟨by dsimp only; decide, by dsimp only; decide⟩⟩)
    obtain ⟨t3, hb3, m3⟩ : ∃ t, Bad t ∧ InN NN (D3, rowObj t) := by
      refine ⟨⟨33024, ?ta3, -1, ?tb3, true, 1, ?tc3⟩, ?hb3, ?hm3⟩
      case hm3 => (show _ ∈ _; with_reducible k_extra "k_mem")
      case hb3 => exact .inr (.inl ⟨.inl rfl, .inl (by dsimp only; decide)⟩)
    obtain ⟨t4, hb4, m4⟩ : ∃ t, Bad t ∧ InN NN (D4, rowObj t) := by
      refine ⟨⟨33024, ?ta4, 8, ?tb4, false, 1, ?tc4⟩, ?hb4, ?hm4⟩
      case hm4 => (show _ ∈ _; with_reducible k_extra "k_mem")
      case hb4 => exact .inr (.inl ⟨.inl rfl, .inr ⟨by dsimp only; decide, by dsimp only; decide⟩⟩)
    obtain ⟨t5, hb5, m5⟩ : ∃ t, Bad t ∧ InN NN (D5, rowObj t) := by
      refine ⟨⟨2048, ?ta5, 0, ?tb5, false, 1, ?tc5⟩, ?hb5, ?hm5⟩
      case hm5 => (show _ ∈ _; with_reducible k_extra "k_mem")
      case hb5 => exact .inl (by dsimp only; decide)
    obtain ⟨t6, hb6, m6⟩ : ∃ t, Bad t ∧ InN NN (D6, rowObj t) := by
      refine ⟨⟨33025, ?ta6, 0, ?tb6, false, 1, ?tc6⟩, ?hb6, ?hm6⟩
      case hm6 => (show _ ∈ _; with_reducible k_extra "k_mem")
      case hb6 => exact .inl (by dsimp only; decide)
    have K0 := news_subX (l := ((427, tabObj (#[] ++ #[rawInt ((207 : Nat) : Int), rawInt ((74 : Nat) : Int), .ref cc])) :: (cc, oc) :: (n2 + 1 + 1, n11) :: rest)) NN (by k_extra "o sub9")
    have Kl : InN NN (lv, W.listOf [.ref D6, .ref D5, .ref D4, .ref D3, .ref D2, .ref D1, .ref D0].toArray 0) := List.mem_cons_self
    have Ks : InN NN (src, srcObj a b ta tb n) := by show _ ∈ _; with_reducible k_extra "k_mem"
    have K2 := Ks.news (Kl.news (m0.news (m1.news (m2.news (m3.news (m4.news (m5.news (m6.news K0))))))))
    have hP : ∀ v ∈ [Value.ref D6, .ref D5, .ref D4, .ref D3, .ref D2, .ref D1, .ref D0], ∃ od t, v = .ref od ∧ Bad t ∧ @LT.lt Nat _ (n2 + 1 + 1) od ∧ (od, rowObj t) ∈ (lv, W.listOf [Value.ref D6, .ref D5, .ref D4, .ref D3, .ref D2, .ref D1, .ref D0].toArray 0) :: (D0, rowObj t0) :: (D1, rowObj t1) :: (D2, rowObj t2) :: (D3, rowObj t3) :: (D4, rowObj t4) :: (D5, rowObj t5) :: (D6, rowObj t6) :: ((427, tabObj (#[] ++ #[rawInt ((207 : Nat) : Int), rawInt ((74 : Nat) : Int), .ref cc])) :: (cc, oc) :: (n2 + 1 + 1, n11) :: rest) := by
      intro v hv
      simp only [List.mem_cons, List.not_mem_nil, or_false] at hv
      rcases hv with h | h | h | h | h | h | h
      · exact ⟨_, _, h, hb6, w6, by simp⟩
      · exact ⟨_, _, h, hb5, w5, by simp⟩
      · exact ⟨_, _, h, hb4, w4, by simp⟩
      · exact ⟨_, _, h, hb3, w3, by simp⟩
      · exact ⟨_, _, h, hb2', w2, by simp⟩
      · exact ⟨_, _, h, hb1', w1, by simp⟩
      · exact ⟨_, _, h, hb0, w0, by simp⟩
    have ho2 : ∀ p ∈ (lv, W.listOf [Value.ref D6, .ref D5, .ref D4, .ref D3, .ref D2, .ref D1, .ref D0].toArray 0) :: (D0, rowObj t0) :: (D1, rowObj t1) :: (D2, rowObj t2) :: (D3, rowObj t3) :: (D4, rowObj t4) :: (D5, rowObj t5) :: (D6, rowObj t6) :: ((427, tabObj (#[] ++ #[rawInt ((207 : Nat) : Int), rawInt ((74 : Nat) : Int), .ref cc])) :: (cc, oc) :: (n2 + 1 + 1, n11) :: rest), p.1 ≠ src := by
      refine all_cons ?_ ?_
      · exact Nat.ne_of_gt sl
      refine all_cons ?_ ?_
      · exact Nat.ne_of_gt s0
      refine all_cons ?_ ?_
      · exact Nat.ne_of_gt s1
      refine all_cons ?_ ?_
      · exact Nat.ne_of_gt s2
      refine all_cons ?_ ?_
      · exact Nat.ne_of_gt s3
      refine all_cons ?_ ?_
      · exact Nat.ne_of_gt s4
      refine all_cons ?_ ?_
      · exact Nat.ne_of_gt s5
      refine all_cons ?_ ?_
      · exact Nat.ne_of_gt s6
      refine all_cons ?_ ?_
      · exact hs.symm
      refine all_cons ?_ ?_
      · exact Nat.ne_of_gt (allLt_all lc.2.2 (src, srcObj a b ta tb n) (List.mem_append_right _ (List.mem_cons_of_mem _ List.mem_cons_self)))
      refine all_cons ?_ ?_
      · exact Nat.ne_of_gt (Nat.lt_succ_of_lt (Nat.lt_succ_of_lt l1.2.1))
      · intro p hp
        exact hoff p hp
    refine' Ctr.use (one_ok w _ src lv _ 0 a b ta tb n ho2 List.mem_cons_self (Nat.succ_pos _) (Nat.le_of_ble_eq_true rfl) ha hb1 hb2) ?k1 ?k2 ?k3 ?k4 ?k5 ?kK ?kd ?ku ?_
    (case k1 => k_asm)
    (case k2 => exact FF)
    (case k3 => k_asm)
    (case k4 => exact K2)
    (case k5 => k_asm)
    (case kK => first | exact rfl | assumption)
    (case kd => ktr_room)
    (case ku => ktr_units)
    intro a' b' ta' tb' i hi ha' hb1'' hb2'' hh tkk F21 N21
    obtain ⟨od, tg, ee, hbad, hwo, hod⟩ := hP _ (List.getElem_mem hi)
    rw [ee]
    have N22 := news_subX (l := (src, srcObj a' b' ta' tb' n) :: (od, rowObj tg) :: ((427, tabObj (#[] ++ #[rawInt ((207 : Nat) : Int), rawInt ((74 : Nat) : Int), .ref cc])) :: (cc, oc) :: (n2 + 1 + 1, n11) :: rest)) N21 (by
      refine all_cons ?_ ?_
      · exact List.mem_cons_self
      refine all_cons ?_ ?_
      · exact List.mem_cons_of_mem _ hod
      · intro q9 hq9
        exact List.mem_cons_of_mem _ (List.mem_cons_of_mem _ (List.mem_cons_of_mem _ (List.mem_cons_of_mem _ (List.mem_cons_of_mem _ (List.mem_cons_of_mem _ (List.mem_cons_of_mem _ (List.mem_cons_of_mem _ (List.mem_cons_of_mem _ hq9)))))))))
    clear K2 Ks Kl K0 m0 m1 m2 m3 m4 m5 m6 NN FF ho2 hP N21 hod
    k_steps
    rename_i u1 u2 u3 h24a l9 h23a ll9 tl1 x9 tt9 ts9 tk9 tp9 hA1 hF1 h22a tk22 y9 dy9 ya yb yc ye hy9 hdy9 h21a tk21 F5 N5 tl2 x2 tp2 hA2 hF2 h20a tk20 F6 N6
    have g7 : @LT.lt Nat _ 427 (n2 + 1 + 1) := Nat.lt_succ_of_lt (Nat.lt_succ_of_lt l1.1)
    have hwW : ∀ p ∈ (427, tabObj (#[] ++ #[rawInt ((207 : Nat) : Int), rawInt ((74 : Nat) : Int), .ref cc])) :: (tl2 ++ (y9, instObj 230 dy9) :: (dy9, tagDict w tg ya yb yc ye) :: (tl1 ++ (l9, W.listOf #[] 0) :: (src, srcObj a' b' ta' tb' n) :: (od, rowObj tg) :: (cc, oc) :: rest)), p.1 ≠ n2 + 1 + 1 := by
      refine all_cons ?_ ?_
      · exact Nat.ne_of_lt g7
      refine all_app ?_ ?_
      · intro p hp
        exact Nat.ne_of_gt (hA2 (n2 + 1 + 1, n11) (by with_reducible k_extra "k_mem") p hp)
      refine all_cons ?_ ?_
      · exact Nat.ne_of_gt (Nat.lt_trans (hy9 (n2 + 1 + 1, n11) (by with_reducible k_extra "k_mem")) hdy9)
      refine all_cons ?_ ?_
      · exact Nat.ne_of_gt (hy9 (n2 + 1 + 1, n11) (by with_reducible k_extra "k_mem"))
      refine all_app ?_ ?_
      · intro p hp
        exact Nat.ne_of_gt (hA1 (n2 + 1 + 1, n11) (by with_reducible k_extra "k_mem") p hp)
      refine all_cons ?_ ?_
      · exact Nat.ne_of_gt (Nat.lt_trans hwo ll9.2.1)
      refine all_cons ?_ ?_
      · exact Nat.ne_of_lt (Nat.lt_succ_of_lt (Nat.lt_succ_of_lt l1.2.1))
      refine all_cons ?_ ?_
      · exact Nat.ne_of_gt hwo
      refine all_cons ?_ ?_
      · exact Nat.ne_of_gt (allLt_all lc.2.2 (n2 + 1 + 1, n11) (List.mem_append_right _ List.mem_cons_self))
      intro p hp
      exact Nat.ne_of_lt (Nat.lt_succ_of_lt (Nat.lt_succ_of_lt (allLt_all l1.2.2 p hp)))
    have hF3 : IsFrm w (tl2 ++ (y9, instObj 230 dy9) :: (dy9, tagDict w tg ya yb yc ye) :: (tl1 ++ (l9, W.listOf #[] 0) :: (src, srcObj a' b' ta' tb' n) :: (od, rowObj tg) :: (cc, oc) :: rest)) x2 (fv tt9 ts9 tk9 tp2 #[]) [y9] := hF2.thin (by k_extra "o thin9")
    have hT3 : TagsAt w (tl2 ++ (y9, instObj 230 dy9) :: (dy9, tagDict w tg ya yb yc ye) :: (tl1 ++ (l9, W.listOf #[] 0) :: (src, srcObj a' b' ta' tb' n) :: (od, rowObj tg) :: (cc, oc) :: rest)) [y9] [tg] := ⟨IsTag.of (dx := dy9) (a := ya) (b := yb) (c := yc) (e := ye) (by with_reducible k_extra "k_mem") (by with_reducible k_extra "k_mem"), trivial⟩
    have ho3 : (od, rowObj tg) ∈ (tl2 ++ (y9, instObj 230 dy9) :: (dy9, tagDict w tg ya yb yc ye) :: (tl1 ++ (l9, W.listOf #[] 0) :: (src, srcObj a' b' ta' tb' n) :: (od, rowObj tg) :: (cc, oc) :: rest)) := by with_reducible k_extra "k_mem"
    have h427b : ∀ o4, ∀ p ∈ (n2 + 1 + 1, o4) :: (tl2 ++ (y9, instObj 230 dy9) :: (dy9, tagDict w tg ya yb yc ye) :: (tl1 ++ (l9, W.listOf #[] 0) :: (src, srcObj a' b' ta' tb' n) :: (od, rowObj tg) :: (cc, oc) :: rest)), p.1 ≠ 427 := by
      intro o4
      refine all_cons ?_ ?_
      · exact Nat.ne_of_gt g7
      refine all_app ?_ ?_
      · intro p hp
        exact Nat.ne_of_gt (hA2 (427, tabObj (#[] ++ #[rawInt ((207 : Nat) : Int), rawInt ((74 : Nat) : Int), .ref cc])) (by with_reducible k_extra "k_mem") p hp)
      refine all_cons ?_ ?_
      · exact Nat.ne_of_gt (Nat.lt_trans (hy9 (427, tabObj (#[] ++ #[rawInt ((207 : Nat) : Int), rawInt ((74 : Nat) : Int), .ref cc])) (by with_reducible k_extra "k_mem")) hdy9)
      refine all_cons ?_ ?_
      · exact Nat.ne_of_gt (hy9 (427, tabObj (#[] ++ #[rawInt ((207 : Nat) : Int), rawInt ((74 : Nat) : Int), .ref cc])) (by with_reducible k_extra "k_mem"))
      refine all_app ?_ ?_
      · intro p hp
        exact Nat.ne_of_gt (hA1 (427, tabObj (#[] ++ #[rawInt ((207 : Nat) : Int), rawInt ((74 : Nat) : Int), .ref cc])) (by with_reducible k_extra "k_mem") p hp)
      refine all_cons ?_ ?_
      · exact Nat.ne_of_gt (Nat.lt_trans g7 (Nat.lt_trans hwo ll9.2.1))
      refine all_cons ?_ ?_
      · exact hs
      refine all_cons ?_ ?_
      · exact Nat.ne_of_gt (Nat.lt_trans g7 hwo)
      refine all_cons ?_ ?_
      · exact Nat.ne_of_gt lc.1
      · intro p hp
        exact hn7 p hp
    refine' storeX_C F6 (news_subX (l := (n2 + 1 + 1, n11) :: ((427, tabObj (#[] ++ #[rawInt ((207 : Nat) : Int), rawInt ((74 : Nat) : Int), .ref cc])) :: (tl2 ++ (y9, instObj 230 dy9) :: (dy9, tagDict w tg ya yb yc ye) :: (tl1 ++ (l9, W.listOf #[] 0) :: (src, srcObj a' b' ta' tb' n) :: (od, rowObj tg) :: (cc, oc) :: rest)))) N6 ?sub2) ?lk2 (.head hwW) hcW ?_ ?ka2 ?kb2
    (case sub2 =>
      k_extra "o sub9")
    (case lk2 => rfl)
    (case ka2 => rfl)
    (case kb2 => rfl)
    intro h4 o4 F4 N4 hd4
    have N7 := news_subX (l := (427, tabObj (#[] ++ #[rawInt ((207 : Nat) : Int), rawInt ((74 : Nat) : Int), .ref cc])) :: (n2 + 1 + 1, o4) :: (tl2 ++ (y9, instObj 230 dy9) :: (dy9, tagDict w tg ya yb yc ye) :: (tl1 ++ (l9, W.listOf #[] 0) :: (src, srcObj a' b' ta' tb' n) :: (od, rowObj tg) :: (cc, oc) :: rest))) N4 (by k_extra "o sub9")
    have hF4 := hF3
    obtain ⟨dx4, tu4, a4, b4, c4, d4, e4, hx4, hdx4, htu4⟩ := hF4
    clear N4 F6 N6 hF2 hA2 F5 N5 hy9 hF1 hA1
    k_steps
    unfold Stop
    rename_i tl3 y3 T3 rows3 z1 z2 z3 z4 z5 h5 tk5 U3 h6 F7 N8 l3
    refine' eq_tups (n := 1) ?Ne ?hae ?hbe ?re ?hue ?_
    (case Ne => exact N8)
    (case hae => exact List.mem_cons_of_mem _ (List.mem_append_left _ z4))
    (case hbe => exact List.mem_cons_self)
    (case hue => ktr_units)
    (case re => exact rows_eqv (ys := [od]) (z5.mono fun q hq => List.mem_cons_of_mem _ hq) ⟨List.mem_cons_of_mem _ (List.mem_append_right _ (List.mem_cons_of_mem _ <| List.mem_cons_of_mem _ ho3)), trivial⟩)
    have N9 := news_subX (l := (427, tabObj (#[] ++ #[rawInt ((207 : Nat) : Int), rawInt ((74 : Nat) : Int), .ref cc])) :: (n2 + 1 + 1, o4) :: (tl2 ++ (y9, instObj 230 dy9) :: (dy9, tagDict w tg ya yb yc ye) :: (tl1 ++ (l9, W.listOf #[] 0) :: (src, srcObj a' b' ta' tb' n) :: (od, rowObj tg) :: (cc, oc) :: rest))) N8 (fun q hq => List.mem_cons_of_mem _ (List.mem_append_right _ hq))
    have hT1 := hT3.1
    have h427c := h427b o4
    clear N8 l3 z1 z2 z3 z4 z5 hx4 hdx4 htu4 ho3
    k_steps
    rename_i h5x ff2 cc2 oc2 vs2 t2 ct2 h7 tk7 F9 N10 dd1 dd2 lc2 lcf2 g10 h8z tk8 KT10 F10 N11x B10 X10 T10 DD10 kg kT kF kN kX kP kD
    refine' hret cc cc2 oc oc2 a' b' ta' tb' (fun q hq => allLt_all lc.2.2 q (by with_reducible k_extra "k_mem")) (fun q hq => allLt_all lc2.2.2 q (by with_reducible k_extra "k_mem")) (CodeObj.of cd1 cd2) (CodeObj.of dd1 dd2) ha' hb1'' hb2'' _ _ _ kT kF (news_subX kN ?_) kB kX kP kD
    k_extra "o sub9"
end
end
section
open PySem PySem.W PyProof.Rows PySem.Calls PySem.Spec
set_option maxRecDepth 100000
set_option maxHeartbeats 4000000
section
theorem octets_hit (w : World) (rest : Led) (src r x : Addr) (k : Nat) (a b : Int) (ta tb : Tok) (n : Nat) (tt tsr tk tp : Tok) (pb : Array UInt8) (xs ys : List Addr) (ts : List TagV) (ps : List Int) (hoff : ∀ p ∈ rest, p.1 ≠ src) (k1 k2 : Addr) (z1 z2 : Obj) (htb : (427, octTab k1 k2) ∈ rest) (hc1 : (k1, z1) ∈ rest) (hc2 : (k2, z2) ∈ rest) (hk1 : CodeObj octQ z1) (hk2 : CodeObj octQ z2) (ha : 0 ≤ a) (hb1 : 0 ≤ b) (hb2 : b < 2147483647)
    (hf : IsFrm w rest x (fv tt tsr tk tp pb) xs) (ht : TagsAt w rest xs ts) (hr : (r, ({ cls := .type "list", data := .seq (ys.map Value.ref).toArray k } : Obj)) ∈ rest) (hy : RowsAt rest ys ts) (hrow : ∀ t ∈ ts, RowOk t) (hn : ts.length ≤ 4) (hn1 : 1 ≤ ts.length) (hpb : KBw.bInts pb = ps) (hps : ps.length = 46) :
    CtrS w 432 90 1000 [.ref src, .ref r, .ref x] ((src, srcObj a b ta tb n) :: rest) (fun R => ∀ a' b' ta' tb', 0 ≤ a' → 0 ≤ b' → b' < 2147483647 → R ((src, srcObj a' b' ta' tb' n) :: rest) (.bool true)) := by
  w_top off
  intro pr loose mean mg mb dp un gd cn cs ad ccd cl outer A₀ base h₀ g₀ L m s Q E B F X N T XB TB D T0 H1 H2 hk hd' hu hret
  have hxl : xs.length = ts.length := ht.length
  have hyl : ys.length = ts.length := hy.length
  have hyl2 : (ys.map Value.ref).length = ts.length := by rw [List.length_map, hyl]
  have hf0 := hf
  obtain ⟨dx, tu0, a9, b9, c9, d9, e9, hx, hdx, htu⟩ := hf0
  obtain ⟨vz1, tz1, hdz1, hvz1⟩ := hk1
  obtain ⟨vz2, tz2, hdz2, hvz2⟩ := hk2
  k_steps
  unfold Stop
  rename_i n1 n2 n3 n4 n5 n7 n8 n9 n11 n12 n13 n14 n15 n16 n17 n18 n19 n20 n21 n22 n23 n24 n25 n26 n27 n28 n29 n30 n31 n32 n33 n34 n35 n36 n37 n38 n39 n40 n41 n42 n43 n44 n45 n46 n47 n48 n49 n50 n51 n52 n53 n54 n55 n56 n57 n58 n59 n60 n61 n62 n63 n64 n65 n66 n67 n68 n69 n70 n71
  have epb := bInts_inj (n33.trans hpb.symm)
  subst epb
  refine' ne_tups (n := 2) ?N ?ha ?hb ?r ?hu ?_
  (case N => k_asm)
  (case ha => with_reducible k_extra "k_mem")
  (case hb => with_reducible k_extra "k_mem")
  (case hu => ktr_units)
  (case r => refine' told_eqvS ?hT ?hU ?hx ?hy ?hs; (case hT => with_reducible k_extra "k_mem"); (case hU => with_reducible k_extra "k_mem"); (case hx => k_extra "ktd_rel"); (case hy => k_extra "ktd_rel"); (case hs => assumption))
  have nn := news_subX (l := (n2 + 1, n12) :: ([] ++ ([] ++ ((n2 + 1 + 1, n11) :: (src, srcObj a b ta tb n) :: rest)))) n71 (by k_extra "o sub9")
  clear n71 n67 n66 n65 n64 n63 n58 n57 n54 n53 n52 n51 n50 n43 n42 n41 n33 n32 n31 n30 n29 n17
  k_steps
  unfold Stop
  have hcF : n12.data = .cell (some (.ref x)) := n14
  have hcW : n11.data = .cell none := n13
  clear n13 n14
  obtain ⟨x0, xr, rfl⟩ : ∃ x0 xr, xs = x0 :: xr := by
    cases xs with
    | nil => rw [List.length_nil] at hxl; (first | lia | omega)
    | cons x0 xr => exact ⟨x0, xr, rfl⟩
  have hB : ∀ p ∈ [] ++ ((n2 + 1 + 1, n11) :: (src, srcObj a b ta tb n) :: rest), p.1 ≠ n2 + 1 := by
    refine all_cons ?_ ?_
    · exact Nat.succ_ne_self _
    refine all_cons ?_ ?_
    · exact Nat.ne_of_lt (Nat.lt_succ_of_lt l1.1)
    · intro p hp
      exact Nat.ne_of_lt (Nat.lt_succ_of_lt (allLt_all l1.2 p hp))
  have hB7 : ∀ q ∈ ([] : Led), ∀ p ∈ [] ++ ((n2 + 1 + 1, n11) :: (src, srcObj a b ta tb n) :: rest), p.1 ≠ q.1 := by
    intro q hq p hp
    cases hq
  have hup : ∀ p ∈ rest, p ∈ [] ++ ((n2 + 1 + 1, n11) :: (src, srcObj a b ta tb n) :: rest) := fun p hp => List.mem_cons_of_mem _ (List.mem_cons_of_mem _ hp)
  refine While_inv (OctJ w [] ((n2 + 1 + 1, n11) :: (src, srcObj a b ta tb n) :: rest) (n2 + 1) _ ts) n70 nn ⟨rfl, n12, x, _, x0, xr, ts, [], rfl, hB, hB7, hcF, hf.mono hup, ht.mono hup, by (first | lia | omega), Nat.le_refl _, by rw [Nat.sub_self]; rfl, rfl⟩ ?_
  rintro n' m1 nw h1 tk1 F1 N1 ⟨rfl, oF, x1, f1, x0', xr', us, tl, rfl, off, off7, hoF, hf1, ht1, h5, hle, hdr, rfl⟩
  dsimp only [List.cons_append, List.nil_append] at N1
  have hi9 : (5 : Int) - ((ys.map Value.ref).length : Int) = ((5 - ts.length : Nat) : Int) := by rw [hyl2]; (first | lia | omega)
  have hz9 : (ys.map Value.ref).length ≤ 16384 := by (first | lia | omega)
  have hf2 := hf1
  obtain ⟨dx1, tu1, a1, b1, c1, d1, e1, hx1, hdx1, htu1⟩ := hf2
  have hl1 : ((x0' :: xr').map Value.ref).length = us.length := by rw [List.length_map, ht1.length]
  have hz1 : xr'.length ≤ 4000 := by
    have := ht1.length
    rw [List.length_cons] at this; (first | lia | omega)
  clear n70 nn
  by_cases hlt : us.length < 5
  · k_steps
    rename_i tk9 y9 dy9 ya yb yc ye hy9 hdy9 h2 tk2 F2 N2 tl2 x2 tp2 hA2 hF2 h3 tk3 F3 N3
    obtain ⟨t0, ht0⟩ : ∃ t0 : TagV, t0 = ⟨34984, tk, 1, tk + 1, false, 1, tk + 1 + 1⟩ := ⟨_, rfl⟩
    rw [← ht0] at N3 hF2 hA2
    have hoff3 : ∀ p ∈ (tl2 ++ ((y9, instObj 230 dy9) :: (dy9, tagDict w t0 ya yb yc ye) :: tl)) ++ ((n2 + 1 + 1, n11) :: (src, srcObj a b ta tb n) :: rest), p.1 ≠ n2 + 1 := by
      rw [List.append_assoc]
      refine all_app ?_ ?_
      · intro p hp
        exact Nat.ne_of_gt (hA2 _ (List.mem_cons_of_mem _ (List.mem_cons_of_mem _ List.mem_cons_self)) p hp)
      refine all_cons ?_ ?_
      · exact Nat.ne_of_gt (Nat.lt_trans (hy9 _ List.mem_cons_self) hdy9)
      refine all_cons ?_ ?_
      · exact Nat.ne_of_gt (hy9 _ List.mem_cons_self)
      · intro p hp
        exact off p hp
    have hoff7 : ∀ q ∈ ([] : Led), ∀ p ∈ (tl2 ++ ((y9, instObj 230 dy9) :: (dy9, tagDict w t0 ya yb yc ye) :: tl)) ++ ((n2 + 1 + 1, n11) :: (src, srcObj a b ta tb n) :: rest), p.1 ≠ q.1 := by
      intro q hq p hp
      cases hq
    have hF3 : IsFrm w ((tl2 ++ ((y9, instObj 230 dy9) :: (dy9, tagDict w t0 ya yb yc ye) :: tl)) ++ ((n2 + 1 + 1, n11) :: (src, srcObj a b ta tb n) :: rest)) x2 { f1 with tp := tp2 } (y9 :: x0' :: xr') := by
      have e : tl2 ++ (y9, instObj 230 dy9) :: (dy9, tagDict w t0 ya yb yc ye) :: (n2 + 1, oF) :: (tl ++ ((n2 + 1 + 1, n11) :: (src, srcObj a b ta tb n) :: rest)) = (tl2 ++ [(y9, instObj 230 dy9), (dy9, tagDict w t0 ya yb yc ye)]) ++ (n2 + 1, oF) :: (tl ++ ((n2 + 1 + 1, n11) :: (src, srcObj a b ta tb n) :: rest)) := by simp only [List.append_assoc, List.cons_append, List.nil_append]
      rw [e] at hF2
      have := hF2.dropC hoF
      
      simpa only [List.append_assoc, List.cons_append, List.nil_append] using this
    refine' storeX_C F3 (news_subX (l := (n2 + 1, oF) :: ([] ++ ((tl2 ++ ((y9, instObj 230 dy9) :: (dy9, tagDict w t0 ya yb yc ye) :: tl)) ++ ((n2 + 1 + 1, n11) :: (src, srcObj a b ta tb n) :: rest)))) N3 ?sub) ?lk (.head ?off8) hoF ?_ ?ka ?kb
    (case sub =>
      k_extra "o sub9")
    (case lk => rfl)
    (case off8 =>
      intro p hp
      exact hoff3 p hp)
    (case ka => rfl)
    (case kb => rfl)
    intro h4 o4 F4 N4 hd4
    k_steps
    refine WhileStep.intro F4 N4 (n' := 5 - (us.length + 1)) (by (first | lia | omega)) ⟨rfl, o4, x2, _, y9, x0' :: xr', t0 :: us, (tl2 ++ ((y9, instObj 230 dy9) :: (dy9, tagDict w t0 ya yb yc ye) :: tl)), rfl, hoff3, hoff7, hd4, hF3, ⟨?t1, ?t2⟩, by rw [List.length_cons]; (first | lia | omega), by rw [List.length_cons]; (first | lia | omega), ?dr, by rw [List.length_cons]⟩
    · exact ⟨dy9, ya, yb, yc, ye, by simp, by simp⟩
    · exact ht1.mono fun q hq => by
        rw [List.append_assoc]
        exact List.mem_append_right _ (List.mem_cons_of_mem _ (List.mem_cons_of_mem _ hq))
    · rw [List.length_cons, Nat.succ_sub hle, List.drop_succ_cons]; exact hdr
  · k_steps
    unfold Stop
    rename_i q1 tlT yT TT rowsT qn qa qy qT qR h9 k9 D1 h10 l10 D2 h11 F11 N11 l11
    have e5 : us.length = 5 := by (first | lia | omega)
    rw [e5] at hdr
    have hx5 : (x0' :: xr').length = 5 := by rw [ht1.length, e5]
    have hRd := RowsAt.drop (5 - ts.length) qR
    rw [hdr] at hRd
    refine' ne_tups (n := 1) ?N ?ha ?hb ?r ?hu ?_
    (case N => k_asm)
    (case ha => with_reducible k_extra "k_mem")
    (case hb => with_reducible k_extra "k_mem")
    (case hu => ktr_units)
    (case r => refine' rows_eqv ?hx ?hy; (case hx => k_extra "ktd_rel"); (case hy => k_extra "ktd_rel"))
    have nn := news_subX (l := (n2 + 1, oF) :: (tl ++ ((n2 + 1 + 1, n11) :: (src, srcObj a b ta tb n) :: rest))) N11 (by k_extra "o sub9")
    clear N11 l11 l10 hRd qR qT qy qa qn
    
    k_steps
    unfold Stop
    rename_i ff ct5 ha9 tkb FO NO lcf g9 h8a tkc KT9 B9 X9 T9 DD9 D6 h27 lt6 D5 h26 lt5 D4 h25 lt4 D3 h24 lt3 D2 h23 lt2 D1 h22 lt1 D0 h21 lt0 lv h20 FF NN ltl
    have s6 : @LT.lt Nat _ src D6 := allLt_all lt6.2.2 (src, srcObj a b ta tb n) (List.mem_append_right _ (List.mem_cons_of_mem _ List.mem_cons_self))
    have s5 : @LT.lt Nat _ src D5 := Nat.lt_trans s6 lt5.1
    have s4 : @LT.lt Nat _ src D4 := Nat.lt_trans s5 lt4.1
    have s3 : @LT.lt Nat _ src D3 := Nat.lt_trans s4 lt3.1
    have s2 : @LT.lt Nat _ src D2 := Nat.lt_trans s3 lt2.1
    have s1 : @LT.lt Nat _ src D1 := Nat.lt_trans s2 lt1.1
    have s0 : @LT.lt Nat _ src D0 := Nat.lt_trans s1 lt0.1
    have sl : @LT.lt Nat _ src lv := Nat.lt_trans s0 ltl.1
    have w6 : @LT.lt Nat _ (n2 + 1 + 1) D6 := allLt_all lt6.2.2 (n2 + 1 + 1, n11) (List.mem_append_right _ List.mem_cons_self)
    have w5 : @LT.lt Nat _ (n2 + 1 + 1) D5 := Nat.lt_trans w6 lt5.1
    have w4 : @LT.lt Nat _ (n2 + 1 + 1) D4 := Nat.lt_trans w5 lt4.1
    have w3 : @LT.lt Nat _ (n2 + 1 + 1) D3 := Nat.lt_trans w4 lt3.1
    have w2 : @LT.lt Nat _ (n2 + 1 + 1) D2 := Nat.lt_trans w3 lt2.1
    have w1 : @LT.lt Nat _ (n2 + 1 + 1) D1 := Nat.lt_trans w2 lt1.1
    have w0 : @LT.lt Nat _ (n2 + 1 + 1) D0 := Nat.lt_trans w1 lt0.1
    obtain ⟨t0, hb0, m0⟩ : ∃ t, Bad t ∧ InN NN (D0, rowObj t) := by
      refine ⟨⟨33024, ?ta0, 0, ?tb0, false, -1, ?tc0⟩, ?hb0, ?hm0⟩
      case hm0 => (show _ ∈ _; with_reducible k_extra "k_mem")
      case hb0 => exact .inr (.inr ⟨.inl rfl, ⟨by dsimp only; decide, by dsimp only; decide⟩, .inl (by dsimp only; decide)⟩)
    obtain ⟨t1, hb1', m1⟩ : ∃ t, Bad t ∧ InN NN (D1, rowObj t) := by
      refine ⟨⟨34984, ?ta1, 0, ?tb1, false, 4096, ?tc1⟩, ?hb1, ?hm1⟩
      case hm1 => (show _ ∈ _; with_reducible k_extra "k_mem")
      case hb1 => exact .inr (.inr ⟨.inr rfl, ⟨by dsimp only; decide, by dsimp only; decide⟩, .inr ⟨by dsimp only; decide, by dsimp only; decide⟩⟩)
    obtain ⟨t2, hb2', m2⟩ : ∃ t, Bad t ∧ InN NN (D2, rowObj t) := by
      refine ⟨⟨34984, ?ta2, 7, ?tb2, true, 4095, ?tc2⟩, ?hb2, ?hm2⟩
      case hm2 => (show _ ∈ _; with_reducible k_extra "k_mem")
      case hb2 => exact .inr (.inr ⟨.inr rfl, ⟨by dsimp only; decide, by dsimp only; decide⟩, .inr ⟨by dsimp only; decide, by dsimp only; decide⟩⟩)
    obtain ⟨t3, hb3, m3⟩ : ∃ t, Bad t ∧ InN NN (D3, rowObj t) := by
      refine ⟨⟨33024, ?ta3, -1, ?tb3, true, 1, ?tc3⟩, ?hb3, ?hm3⟩
      case hm3 => (show _ ∈ _; with_reducible k_extra "k_mem")
      case hb3 => exact .inr (.inl ⟨.inl rfl, .inl (by dsimp only; decide)⟩)
    obtain ⟨t4, hb4, m4⟩ : ∃ t, Bad t ∧ InN NN (D4, rowObj t) := by
      refine ⟨⟨33024, ?ta4, 8, ?tb4, false, 1, ?tc4⟩, ?hb4, ?hm4⟩
      case hm4 => (show _ ∈ _; with_reducible k_extra "k_mem")
      case hb4 => exact .inr (.inl ⟨.inl rfl, .inr ⟨by dsimp only; decide, by dsimp only; decide⟩⟩)
    obtain ⟨t5, hb5, m5⟩ : ∃ t, Bad t ∧ InN NN (D5, rowObj t) := by
      refine ⟨⟨2048, ?ta5, 0, ?tb5, false, 1, ?tc5⟩, ?hb5, ?hm5⟩
      case hm5 => (show _ ∈ _; with_reducible k_extra "k_mem")
      case hb5 => exact .inl (by dsimp only; decide)
    obtain ⟨t6, hb6, m6⟩ : ∃ t, Bad t ∧ InN NN (D6, rowObj t) := by
      refine ⟨⟨33025, ?ta6, 0, ?tb6, false, 1, ?tc6⟩, ?hb6, ?hm6⟩
      case hm6 => (show _ ∈ _; with_reducible k_extra "k_mem")
      case hb6 => exact .inl (by dsimp only; decide)
    have K0 := news_subX (l := ((n2 + 1 + 1, n11) :: rest)) NN (by k_extra "o sub9")
    have Kl : InN NN (lv, W.listOf [.ref D6, .ref D5, .ref D4, .ref D3, .ref D2, .ref D1, .ref D0].toArray 0) := List.mem_cons_self
    have Ks : InN NN (src, srcObj a b ta tb n) := by show _ ∈ _; with_reducible k_extra "k_mem"
    have K2 := Ks.news (Kl.news (m0.news (m1.news (m2.news (m3.news (m4.news (m5.news (m6.news K0))))))))
    have hP : ∀ v ∈ [Value.ref D6, .ref D5, .ref D4, .ref D3, .ref D2, .ref D1, .ref D0], ∃ od t, v = .ref od ∧ Bad t ∧ @LT.lt Nat _ (n2 + 1 + 1) od ∧ (od, rowObj t) ∈ (lv, W.listOf [Value.ref D6, .ref D5, .ref D4, .ref D3, .ref D2, .ref D1, .ref D0].toArray 0) :: (D0, rowObj t0) :: (D1, rowObj t1) :: (D2, rowObj t2) :: (D3, rowObj t3) :: (D4, rowObj t4) :: (D5, rowObj t5) :: (D6, rowObj t6) :: ((n2 + 1 + 1, n11) :: rest) := by
      intro v hv
      simp only [List.mem_cons, List.not_mem_nil, or_false] at hv
      rcases hv with h | h | h | h | h | h | h
      · exact ⟨_, _, h, hb6, w6, by simp⟩
      · exact ⟨_, _, h, hb5, w5, by simp⟩
      · exact ⟨_, _, h, hb4, w4, by simp⟩
      · exact ⟨_, _, h, hb3, w3, by simp⟩
      · exact ⟨_, _, h, hb2', w2, by simp⟩
      · exact ⟨_, _, h, hb1', w1, by simp⟩
      · exact ⟨_, _, h, hb0, w0, by simp⟩
    have ho2 : ∀ p ∈ (lv, W.listOf [Value.ref D6, .ref D5, .ref D4, .ref D3, .ref D2, .ref D1, .ref D0].toArray 0) :: (D0, rowObj t0) :: (D1, rowObj t1) :: (D2, rowObj t2) :: (D3, rowObj t3) :: (D4, rowObj t4) :: (D5, rowObj t5) :: (D6, rowObj t6) :: ((n2 + 1 + 1, n11) :: rest), p.1 ≠ src := by
      refine all_cons ?_ ?_
      · exact Nat.ne_of_gt sl
      refine all_cons ?_ ?_
      · exact Nat.ne_of_gt s0
      refine all_cons ?_ ?_
      · exact Nat.ne_of_gt s1
      refine all_cons ?_ ?_
      · exact Nat.ne_of_gt s2
      refine all_cons ?_ ?_
      · exact Nat.ne_of_gt s3
      refine all_cons ?_ ?_
      · exact Nat.ne_of_gt s4
      refine all_cons ?_ ?_
      · exact Nat.ne_of_gt s5
      refine all_cons ?_ ?_
      · exact Nat.ne_of_gt s6
      refine all_cons ?_ ?_
      · exact Nat.ne_of_gt (Nat.lt_succ_of_lt (Nat.lt_succ_of_lt l1.1))
      · intro p hp
        exact hoff p hp
    refine' Ctr.use (one_ok w _ src lv _ 0 a b ta tb n ho2 List.mem_cons_self (Nat.succ_pos _) (Nat.le_of_ble_eq_true rfl) ha hb1 hb2) ?k1 ?k2 ?k3 ?k4 ?k5 ?kK ?kd ?ku ?_
    (case k1 => k_asm)
    (case k2 => exact FF)
    (case k3 => k_asm)
    (case k4 => exact K2)
    (case k5 => k_asm)
    (case kK => first | exact rfl | assumption)
    (case kd => ktr_room)
    (case ku => ktr_units)
    intro a' b' ta' tb' i hi ha' hb1'' hb2'' hh tkk F21 N21
    obtain ⟨od, tg, ee, hbad, hwo, hod⟩ := hP _ (List.getElem_mem hi)
    rw [ee]
    have N22 := news_subX (l := (src, srcObj a' b' ta' tb' n) :: (od, rowObj tg) :: ((n2 + 1 + 1, n11) :: rest)) N21 (by
      refine all_cons ?_ ?_
      · exact List.mem_cons_self
      refine all_cons ?_ ?_
      · exact List.mem_cons_of_mem _ hod
      · intro q9 hq9
        exact List.mem_cons_of_mem _ (List.mem_cons_of_mem _ (List.mem_cons_of_mem _ (List.mem_cons_of_mem _ (List.mem_cons_of_mem _ (List.mem_cons_of_mem _ (List.mem_cons_of_mem _ (List.mem_cons_of_mem _ (List.mem_cons_of_mem _ hq9)))))))))
    clear K2 Ks Kl K0 m0 m1 m2 m3 m4 m5 m6 NN FF ho2 hP N21 hod
    k_steps
    rename_i u1 u2 u3 h24a l9 h23a ll9 tl1 x9 tt9 ts9 tk9 tp9 hA1 hF1 h22a tk22 y9 dy9 ya yb yc ye hy9 hdy9 h21a tk21 F5 N5 tl2 x2 tp2 hA2 hF2 h20a tk20 F6 N6
    
    have hwW : ∀ p ∈ (tl2 ++ (y9, instObj 230 dy9) :: (dy9, tagDict w tg ya yb yc ye) :: (tl1 ++ (l9, W.listOf #[] 0) :: (src, srcObj a' b' ta' tb' n) :: (od, rowObj tg) :: rest)), p.1 ≠ n2 + 1 + 1 := by
      refine all_app ?_ ?_
      · intro p hp
        exact Nat.ne_of_gt (hA2 (n2 + 1 + 1, n11) (by with_reducible k_extra "k_mem") p hp)
      refine all_cons ?_ ?_
      · exact Nat.ne_of_gt (Nat.lt_trans (hy9 (n2 + 1 + 1, n11) (by with_reducible k_extra "k_mem")) hdy9)
      refine all_cons ?_ ?_
      · exact Nat.ne_of_gt (hy9 (n2 + 1 + 1, n11) (by with_reducible k_extra "k_mem"))
      refine all_app ?_ ?_
      · intro p hp
        exact Nat.ne_of_gt (hA1 (n2 + 1 + 1, n11) (by with_reducible k_extra "k_mem") p hp)
      refine all_cons ?_ ?_
      · exact Nat.ne_of_gt (Nat.lt_trans hwo ll9.2.1)
      refine all_cons ?_ ?_
      · exact Nat.ne_of_lt (Nat.lt_succ_of_lt (Nat.lt_succ_of_lt l1.1))
      refine all_cons ?_ ?_
      · exact Nat.ne_of_gt hwo
      intro p hp
      exact Nat.ne_of_lt (Nat.lt_succ_of_lt (Nat.lt_succ_of_lt (allLt_all l1.2 p hp)))
    have hF3 : IsFrm w (tl2 ++ (y9, instObj 230 dy9) :: (dy9, tagDict w tg ya yb yc ye) :: (tl1 ++ (l9, W.listOf #[] 0) :: (src, srcObj a' b' ta' tb' n) :: (od, rowObj tg) :: rest)) x2 (fv tt9 ts9 tk9 tp2 #[]) [y9] := hF2.thin (by k_extra "o thin9")
    have hT3 : TagsAt w (tl2 ++ (y9, instObj 230 dy9) :: (dy9, tagDict w tg ya yb yc ye) :: (tl1 ++ (l9, W.listOf #[] 0) :: (src, srcObj a' b' ta' tb' n) :: (od, rowObj tg) :: rest)) [y9] [tg] := ⟨IsTag.of (dx := dy9) (a := ya) (b := yb) (c := yc) (e := ye) (by with_reducible k_extra "k_mem") (by with_reducible k_extra "k_mem"), trivial⟩
    have ho3 : (od, rowObj tg) ∈ (tl2 ++ (y9, instObj 230 dy9) :: (dy9, tagDict w tg ya yb yc ye) :: (tl1 ++ (l9, W.listOf #[] 0) :: (src, srcObj a' b' ta' tb' n) :: (od, rowObj tg) :: rest)) := by with_reducible k_extra "k_mem"
    
    refine' storeX_C F6 (news_subX (l := (n2 + 1 + 1, n11) :: ((tl2 ++ (y9, instObj 230 dy9) :: (dy9, tagDict w tg ya yb yc ye) :: (tl1 ++ (l9, W.listOf #[] 0) :: (src, srcObj a' b' ta' tb' n) :: (od, rowObj tg) :: rest)))) N6 ?sub2) ?lk2 (.head hwW) hcW ?_ ?ka2 ?kb2
    (case sub2 =>
      k_extra "o sub9")
    (case lk2 => rfl)
    (case ka2 => rfl)
    (case kb2 => rfl)
    intro h4 o4 F4 N4 hd4
    have N7 := news_subX (l := (n2 + 1 + 1, o4) :: (tl2 ++ (y9, instObj 230 dy9) :: (dy9, tagDict w tg ya yb yc ye) :: (tl1 ++ (l9, W.listOf #[] 0) :: (src, srcObj a' b' ta' tb' n) :: (od, rowObj tg) :: rest))) N4 (by k_extra "o sub9")
    have hF4 := hF3
    obtain ⟨dx4, tu4, a4, b4, c4, d4, e4, hx4, hdx4, htu4⟩ := hF4
    clear N4 F6 N6 hF2 hA2 F5 N5 hy9 hF1 hA1
    k_steps
    unfold Stop
    rename_i tl3 y3 T3 rows3 z1 z2 z3 z4 z5 h5 tk5 U3 h6 F7 N8 l3
    refine' eq_tups (n := 1) ?Ne ?hae ?hbe ?re ?hue ?_
    (case Ne => exact N8)
    (case hae => exact List.mem_cons_of_mem _ (List.mem_append_left _ z4))
    (case hbe => exact List.mem_cons_self)
    (case hue => ktr_units)
    (case re => exact rows_eqv (ys := [od]) (z5.mono fun q hq => List.mem_cons_of_mem _ hq) ⟨List.mem_cons_of_mem _ (List.mem_append_right _ (List.mem_cons_of_mem _ ho3)), trivial⟩)
    have N9 := news_subX (l := (n2 + 1 + 1, o4) :: (tl2 ++ (y9, instObj 230 dy9) :: (dy9, tagDict w tg ya yb yc ye) :: (tl1 ++ (l9, W.listOf #[] 0) :: (src, srcObj a' b' ta' tb' n) :: (od, rowObj tg) :: rest))) N8 (fun q hq => List.mem_cons_of_mem _ (List.mem_append_right _ hq))
    have hT1 := hT3.1
    
    clear N8 l3 z1 z2 z3 z4 z5 hx4 hdx4 htu4 ho3
    k_steps
    rename_i kg kT kF kN kX kP kD
    refine' hret a' b' ta' tb' ha' hb1'' hb2'' _ _ _ kT kF (news_subX kN ?_) kB kX kP kD
    k_extra "o sub9"
end
end
section
open PySem PySem.W PyProof.Rows PySem.Calls PySem.Spec
set_option maxRecDepth 100000
set_option maxHeartbeats 4000000
theorem isList_keep {h₀ h : Heap} {L : Addr} {m : Str → Option Value} {a : Addr} {its : Array Value} (F : Fr h₀ L h m) (x : h₀.IsList a its) : h.IsList a its := let ⟨o, e, r⟩ := x; ⟨o, F.keep _ _ e, r⟩
theorem ints_get : ∀ {vs : List Value} {zs : List Int}, IntsAre vs zs → ∀ {i : Nat}, i < vs.length → ∃ z t, vs[i]? = some (.int z t)
  | _, _, .nil, _, h => nomatch h
  | _, _, .cons z t _, 0, _ => ⟨z, t, rfl⟩
  | _, _, .cons _ _ r, i + 1, h => by simpa using ints_get r (by simpa using h)
section
theorem pool_ok (w : World) (news : Led) (sc : Addr) (vs : List Value) (hI : ∀ i : Nat, i < vs.length → ∃ z t, vs[i]? = some (Value.int z t)) (hz : vs.length ≤ 63) (kk : Int) (hkk : kk = 0 ∨ kk = 1 ∨ kk = 2) (tk : Tok)
    (p : Program) (loose : List Str) (mean : ExcName → Option Value) (mg mb : Str → Option Value) (dp un : Nat) (gd : Option (List Code)) (cn : Str) (cs : Scope) (ad : Addr) (ccd : Value) (cl : List (Str × Addr)) (outer : List Env) (A₀ : Around) (base h₀ : Heap) (L : Addr) (m : Str → Option Value) (s : Shared) (Q E : Value → Shared → Prop)
    (HL : h₀.IsList sc vs.toArray) (B : Below A₀ base outer h₀) (F : Fr h₀ L s.heap m) (X : (hd.heap_1 w.params).In h₀) (N : News h₀ L s.heap news) (T : Top p loose mean mg mb h₀) (hk : cs.kind = .function) (hd' : dp + 6 < recursionLimit) (hu : un + 40 < cLine)
    (hret : ∀ src a b ta tb n, (∀ q ∈ news, @LT.lt Nat _ q.1 src) → 0 ≤ a → 0 ≤ b → b < 2147483647 → ∀ h' tk', Fr h₀ L h' m → News h₀ L h' ((src, srcObj a b ta tb n) :: news) → Q (.ref src) { s with heap := h', toks := tk' }) :
    wpAny (model PySem.Challenge.rw_pf0386_01.row.prog w) (ktrTop dp un gd cn cs L ad ccd cl outer) (call (.ref 373) [.ref sc, .int kk tk]) Q E s := by
  k_with_none
  w_top off
  k_with "k_mem" => first | assumption | exact List.mem_cons_self | (refine List.mem_cons_of_mem _ ?_; k_extra "k_mem") | (refine List.mem_append_right _ ?_; k_extra "k_mem") | (refine List.mem_append_left _ ?_; k_extra "k_mem")
  k_with "k_all" => assumption
  k_with "ktr_room" => ((try simp only [depth_under_make, depth_under_kw, depth_in1, depth_deeper, depth_caller]); (try dsimp only [ktrTop]); first | exact room0 (by with_reducible assumption) | exact room1 (by with_reducible assumption) rfl | exact room2 (by with_reducible assumption) rfl | exact room3 (by with_reducible assumption) rfl | exact Nat.le_of_ble_eq_true rfl | lia | omega)
  k_with "k_room" => ktr_room
  k_with "ktr_units" => ((try simp only [units_in1, units_deeper, Around.mark_units, units_caller]); (try dsimp only [ktrTop]); first | exact room0 (by with_reducible assumption) | exact room1 (by with_reducible assumption) rfl | exact room2 (by with_reducible assumption) rfl | exact room3 (by with_reducible assumption) rfl | exact Nat.le_of_ble_eq_true rfl | ((have hcL9 := cLine_is); (first | lia | omega)))
  k_with "k_enter" => (refine' code_defC ?k1_20 ?k2_20 ?k3_20 ?k4_20 ?k5_20 ?kA_20 ?kF_20 ?kK_20 ?k6_20 ?k7_20 ?k8_20 ?k9_20 ?kB_20 ?kD_20 ?_ ?c2_20 ?c3_20 ?c4_20; (case kA_20 => exact rfl); (case kF_20 => exact rfl); (case kK_20 => first | exact rfl | assumption); (case k1_20 => k_asm); (case k2_20 => k_asm); (case k3_20 => k_asm); (case k4_20 => k_asm); (case k5_20 => k_asm); (case k6_20 => k_is); (case k7_20 => k_is); (case k8_20 => k_room); (case k9_20 => first | exact BindsTo.of_eq rfl | exact binds_K (by k_in) rfl (by k_is) rfl rfl rfl | fail "k_enter: no rule for these arguments"); (case kB_20 => exact rfl); (case kD_20 => decide +kernel); (case c2_20 => exact rfl); (case c3_20 => exact rfl); (case c4_20 => exact rfl); k_whole; intro _ _ _ _ _ _ _ N' Y' B' _ _ l1; (try k_lt l1); k_cells Y'; (try simp only [List.cons_append, List.nil_append] at N'); (try dsimp only); (try k_lift B'); (try k_fold))
  k_with "k_enter" => (refine' code_def ?k1_0 ?k2_0 ?k3_0 ?k4_0 ?k5_0 ?kA_0 ?kF_0 ?kK_0 ?k6_0 ?k7_0 ?k8_0 ?k9_0 ?kB_0 ?_ ?c2_0 ?c3_0 ?c4_0 ?c5_0; (case kA_0 => exact rfl); (case kF_0 => exact rfl); (case kK_0 => first | exact rfl | assumption); (case k1_0 => k_asm); (case k2_0 => k_asm); (case k3_0 => k_asm); (case k4_0 => k_asm); (case k5_0 => k_asm); (case k6_0 => k_is); (case k7_0 => k_is); (case k8_0 => k_room); (case k9_0 => first | exact BindsTo.of_eq rfl | exact binds_K (by k_in) rfl (by k_is) rfl rfl rfl | fail "k_enter: no rule for these arguments"); (case c5_0 => decide); (case kB_0 => exact locs rfl); (case c2_0 => exact rfl); (case c3_0 => exact rfl); (case c4_0 => exact rfl); k_whole; intro _ _ _ _ _ _ B' _ _; (try dsimp only); (try k_lift B'); (try k_fold))
  k_with "o call type:tuple" => (k_here; (with_reducible show wpAny _ _ (call (Value.type _) [Value.ref _]) _ _ _); k_dflt (refine call_tuple_tup (News.isTup (by k_asm) (by k_extra "k_mem")) ?_))
  k_with "o call type:bytes" => (k_here; (with_reducible show wpAny _ _ (call (Value.type _) [Value.bytes _ _]) _ _ _); refine call_bytes_same ?_)
  k_with "o call type:tuple" => (k_here; (with_reducible show wpAny _ _ (call (Value.type _) [Value.ref _]) _ _ _); k_dflt (refine' tupleOf_ys ?F_18 ?N_18 ?hm_18 ?hz_18 ?_; (case F_18 => k_asm); (case N_18 => k_asm); (case hm_18 => k_extra "k_mem"); (case hz_18 => first | assumption | exact Nat.le_of_ble_eq_true rfl); k_whole); intro _ _ _ _ l1; (try k_lt l1); (try (revert l1; intro _)); (try k_sweep))
  k_with "o compareOp Eq ref ref" => (k_here; (with_reducible show wpAny _ _ (compareOp _ (Value.ref _) (Value.ref _)) _ _ _); k_dflt (refine' eq_tups_nil (by k_asm) ?ka_8 (by k_extra "k_mem") (by ktr_units) ?_; (case ka_8 => k_extra "k_mem")); (try simp only [reduceCtorEq, decide_false, decide_true, Bool.not_false, Bool.not_true]))
  k_with "o compareOp NotEq ref ref" => (k_here; (with_reducible show wpAny _ _ (compareOp _ (Value.ref _) (Value.ref _)) _ _ _); k_dflt (refine' ne_tups_nil (by k_asm) ?ka_9 (by k_extra "k_mem") (by ktr_units) ?_; (case ka_9 => k_extra "k_mem")); (try simp only [reduceCtorEq, decide_false, decide_true, Bool.not_false, Bool.not_true]))
  k_with "o subscriptTail" => (k_here; (with_reducible show wpAny _ _ (subscriptTail _ _ (Value.ref _) (Value.int 0 _)) _ _ _); k_dflt (refine item_ledT0 (News.isTup (by k_asm) (by k_extra "k_mem")) ?_))
  k_with "o subscriptTail" => (k_here; (with_reducible show wpAny _ _ (subscriptTail _ _ (Value.ref _) (Value.ref _)) _ _ _); k_dflt (refine' from_ledT1 ?F_13 ?N_13 ?ht_13 ?hz_13 ?_; (case F_13 => k_asm); (case N_13 => k_asm); (case ht_13 => k_extra "k_mem"); (case hz_13 => first | assumption | (simp only [List.length_map]; first | exact Nat.le_of_ble_eq_true rfl | lia | omega))); intro _ _ _ _ l1; (try k_lt l1); (try (revert l1; intro _)); (try k_sweep))
  k_with "o binaryOp Add ref ref" => (k_here; (with_reducible show wpAny _ _ (binaryOp _ (Value.ref _) (Value.ref _)) _ _ _); k_dflt (refine' add_ledTm ?F_14 ?N_14 ?ht_14 ?hb_14 ?hz_14 ?_; (case F_14 => k_asm); (case N_14 => k_asm); (case ht_14 => k_extra "k_mem"); (case hb_14 => k_extra "k_mem"); (case hz_14 => (simp only [List.length_map, List.length_nil]; first | exact Nat.le_of_ble_eq_true rfl | lia | omega))); intro _ _ _ _ _ _ _; (try k_sweep))
  k_with "o binaryOp Add ref ref" => (k_here; (with_reducible show wpAny _ _ (binaryOp _ (Value.ref _) (Value.ref _)) _ _ _); k_dflt (refine' add_ledT1 ?F_15 ?N_15 ?ht_15 ?hb_15 ?hz_15 ?_; (case F_15 => k_asm); (case N_15 => k_asm); (case ht_15 => k_extra "k_mem"); (case hb_15 => k_extra "k_mem"); (case hz_15 => (simp only [List.length_map, List.length_nil]; first | exact Nat.le_of_ble_eq_true rfl | lia | omega))); intro _ _ _ _ l1; (try k_lt l1); (try (revert l1; intro _)); (try k_sweep))
  k_with "o binaryOp Add ref ref" => (k_here; (with_reducible show wpAny _ _ (binaryOp _ (Value.ref _) (Value.ref _)) _ _ _); k_dflt (refine' add_ledT0 ?F_16 ?N_16 ?ht_16 ?hb_16 ?hz_16 ?_; (case F_16 => k_asm); (case N_16 => k_asm); (case ht_16 => k_extra "k_mem"); (case hb_16 => k_extra "k_mem"); (case hz_16 => (simp only [List.length_map, List.length_nil]; first | exact Nat.le_of_ble_eq_true rfl | lia | omega))))
  k_with "tbn_conj" => first | exact abv_nil | assumption | exact abv_one (by assumption) | (refine abv_next (by first | assumption | exact And.left (by assumption) | lia | omega) ?_; k_extra "tbn_conj") | exact abv_oneA (by first | assumption | exact And.right (by assumption) | exact And.right (And.right (by assumption))) | (refine abv_all (by assumption) ?_; k_extra "tbn_conj") | (refine abv_allA (by first | assumption | exact And.right (by assumption) | exact And.right (And.right (by assumption))) ?_; k_extra "tbn_conj") | (refine abv_allS (by assumption) (by simp only [List.cons_append, List.append_assoc, List.nil_append]) ?_; k_extra "tbn_conj") | (refine abv_app ?_ ?_ <;> k_extra "tbn_conj")
  k_with "o mem9" => (with_reducible first | exact List.mem_cons_self | (refine List.mem_cons_of_mem _ ?_; k_extra "o mem9") | (refine List.mem_append_right _ ?_; k_extra "o mem9") | (refine List.mem_append_left _ ?_; k_extra "o mem9") | assumption)
  k_with "o subv" => (with_reducible first | exact sub_rfl | exact sub_le | (refine sub_tl ?_; k_extra "o subv") | (refine sub_ri ?_; k_extra "o subv") | (refine sub_lf ?_; k_extra "o subv"))
  k_with "o sub9" => first | k_extra "o subv" | exact sub_nil | ((with_reducible refine sub_cons ?_ ?_); (k_extra "o mem9"); k_extra "o sub9") | ((with_reducible refine sub_app ?_ ?_); k_extra "o sub9"; k_extra "o sub9")
  k_with "ktd_rel" => first | with_reducible assumption | ((with_reducible refine IsFrm.mono ?_ (by with_reducible assumption)); k_extra "o sub9") | ((with_reducible refine IsTag.mono ?_ (by with_reducible assumption)); k_extra "o sub9") | ((with_reducible refine TagsAt.mono ?_ (by with_reducible assumption)); k_extra "o sub9") | ((with_reducible refine RowsAt.mono ?_ (by with_reducible assumption)); k_extra "o sub9") | ((with_reducible refine' IsFrm.of ?q1_39 ?q2_39 ?q3_39); (case q1_39 => k_extra "k_mem"); (case q2_39 => k_extra "k_mem"); (case q3_39 => k_extra "k_mem")) | ((with_reducible refine' IsTag.of ?q1_39 ?q2_39); (case q1_39 => k_extra "k_mem"); (case q2_39 => k_extra "k_mem"))
  k_with "k_all" => first | (refine' allNe_of ?h1_45 ?h2_45; (case h1_45 => assumption); (case h2_45 => first | exact Nat.le_refl _ | exact Nat.le_succ _ | lia | omega)) | (refine' allNe_ofA ?h1_45 ?h2_45; (case h1_45 => assumption); (case h2_45 => first | exact Nat.le_refl _ | exact Nat.le_succ _ | lia | omega)) | (refine' allNe_ofA1 ?h1_45 ?h2_45; (case h1_45 => assumption); (case h2_45 => first | exact Nat.le_refl _ | exact Nat.le_succ _ | lia | omega)) | (refine' allNe_ofA2 ?h1_45 ?h2_45; (case h1_45 => assumption); (case h2_45 => first | exact Nat.le_refl _ | exact Nat.le_succ _ | lia | omega))
  k_with "o binaryOp Mod int int" => ((with_reducible show wpAny _ _ (binaryOp Operator.Mod (Value.int _ _) (Value.int _ _)) _ _ _); refine mod_any (by (first | lia | omega)) ?_; intro _ _ _)
  k_with "o binaryOp Mult int int" => ((with_reducible show wpAny _ _ (binaryOp Operator.Mult (Value.int _ _) (Value.int _ _)) _ _ _); refine mul_any (by (first | lia | omega)) (by (first | lia | omega)) ?_)
  k_with "o call builtin:len" => (k_here; (with_reducible show wpAny _ _ (call (Value.builtin _) [Value.ref _]) _ _ _); k_dflt (refine len_led (isList_keep (by k_asm) (isList_keep (by assumption) (by assumption))) (by (first | lia | omega)) ?_))
  k_with "o subscriptTail Name Name ref int" => (k_here; (with_reducible show wpAny _ _ (subscriptTail _ _ (Value.ref _) (Value.int _ _)) _ _ _); k_dflt (refine' item_listL ?hl_115 ?h0_115 ?hf_115 ?hx_115 ?_; (case hl_115 => exact isList_keep (by k_asm) (isList_keep (by assumption) (by assumption))); (case h0_115 => first | exact Nat.le_of_ble_eq_true rfl | lia | omega); (case hf_115 => first | exact Nat.le_of_ble_eq_true rfl | lia | omega); (case hx_115 => assumption)))
  have hk2 : 0 ≤ kk ∧ kk ≤ 2 := by rcases hkk with rfl | rfl | rfl <;> decide
  have hk3 : 0 ≤ 7919 * kk * kk ∧ 7919 * kk * kk ≤ 31676 := by rcases hkk with rfl | rfl | rfl <;> decide
  clear hkk
  by_cases hlt : kk < (vs.length : Int)
  · obtain ⟨z, tz, hv⟩ := hI kk.toNat (by (first | lia | omega))
    k_steps
    all_goals
      refine' hret _ _ _ _ _ _ ?q1 ?q2 ?q3 ?q4 _ _ ?q5 ?q6
      (case q5 => assumption)
      (case q6 => assumption)
      (case q1 => assumption)
      (case q2 => first | assumption | (first | lia | omega) | exact Int.le_refl _)
      (case q3 => assumption)
      (case q4 => assumption)
  · k_steps
    all_goals
      refine' hret _ _ _ _ _ _ ?q1 ?q2 ?q3 ?q4 _ _ ?q5 ?q6
      (case q5 => assumption)
      (case q6 => assumption)
      (case q1 => assumption)
      (case q2 => first | assumption | (first | lia | omega) | exact Int.le_refl _)
      (case q3 => assumption)
      (case q4 => assumption)
end
end
section
open PySem PySem.W PyProof.Rows PySem.Calls PySem.Spec
set_option maxRecDepth 100000
set_option maxHeartbeats 40000000
theorem rep_ints (v : Int) (t : Tok) : ∀ n : Nat, IntsAre (List.replicate n [Value.int v t]).flatten (List.replicate n v)
  | 0 => .nil
  | n + 1 => .cons v t (rep_ints v t n)
noncomputable def LawJ (cS : Addr) (BL : Led) (m₀ : Str → Option Value) (_i : Nat) (m : Str → Option Value) (nw : Led) : Prop :=
  ∃ A1 A2 A3 A4 A5 oS vS X7, m = (fun z => if z = Str.ofString "vlan" then A1 else if z = Str.ofString "priority" then A2 else if z = Str.ofString "frame" then A3 else if z = Str.ofString "rows" then A4 else if z = Str.ofString "k" then A5 else m₀ z) ∧ oS.data = .cell vS ∧ nw = (cS, oS) :: (X7 ++ BL) ∧ (∀ p ∈ X7 ++ BL, p.1 ≠ cS) ∧
    ((X7 = [(427, tabObj #[])] ∧ ∀ p ∈ BL, p.1 ≠ 427) ∨ ∃ k1 k2 z1 z2, X7 = [(k2, z2), (k1, z1), (427, octTab k1 k2)] ∧ CodeObj octQ z1 ∧ CodeObj octQ z2)
theorem law_set0 {a b c d e : Str} {m : Str → Option Value} : m = fun z => if z = a then m a else if z = b then m b else if z = c then m c else if z = d then m d else if z = e then m e else m z := by
  funext z
  by_cases h1 : z = a
  · rw [if_pos h1, h1]
  by_cases h2 : z = b
  · rw [if_neg h1, if_pos h2, h2]
  by_cases h3 : z = c
  · rw [if_neg h1, if_neg h2, if_pos h3, h3]
  by_cases h4 : z = d
  · rw [if_neg h1, if_neg h2, if_neg h3, if_pos h4, h4]
  by_cases h5 : z = e
  · rw [if_neg h1, if_neg h2, if_neg h3, if_neg h4, if_pos h5, h5]
  · rw [if_neg h1, if_neg h2, if_neg h3, if_neg h4, if_neg h5]
theorem law_set {a b c d e : Str} {A B C D E A' B' C' D' E' : Option Value} {m : Str → Option Value} : (fun z => if z = a then A else if z = b then B else if z = c then C else if z = d then D else if z = e then E else if z = a then A' else if z = b then B' else if z = c then C' else if z = d then D' else if z = e then E' else m z) = fun z => if z = a then A else if z = b then B else if z = c then C else if z = d then D else if z = e then E else m z := by
  funext z
  by_cases h1 : z = a
  · simp only [if_pos h1]
  by_cases h2 : z = b
  · simp only [if_neg h1, if_pos h2]
  by_cases h3 : z = c
  · simp only [if_neg h1, if_neg h2, if_pos h3]
  by_cases h4 : z = d
  · simp only [if_neg h1, if_neg h2, if_neg h3, if_pos h4]
  by_cases h5 : z = e
  · simp only [if_neg h1, if_neg h2, if_neg h3, if_neg h4, if_pos h5]
  · simp only [if_neg h1, if_neg h2, if_neg h3, if_neg h4, if_neg h5]
theorem ints_len : ∀ {vs : List Value} {zs : List Int}, IntsAre vs zs → vs.length = zs.length
  | _, _, .nil => rfl
  | _, _, .cons _ _ r => by rw [List.length_cons, List.length_cons, ints_len r]
theorem IsFrm.thinL {w : World} {r r' : Led} {x : Addr} {f : FrameV} {xs : List Addr} (k : IsFrm w r x f xs) (h : ∀ q ∈ r, q ∈ r' ∨ q.2.cls = .type "list" ∨ q.2.cls = .none) : IsFrm w r' x f xs := by
  obtain ⟨dx, tu, a, b, c, d, e, m1, m2, m3⟩ := k
  exact ⟨dx, tu, a, b, c, d, e, (h _ m1).resolve_right (fun q => q.elim (fun q => nomatch q) (fun q => nomatch q)), (h _ m2).resolve_right (fun q => q.elim (fun q => absurd (Value.type.inj q) (by decide)) (fun q => nomatch q)), (h _ m3).resolve_right (fun q => q.elim (fun q => absurd (Value.type.inj q) (by decide)) (fun q => nomatch q))⟩
theorem TagsAt.thinL {w : World} {r r' : Led} (h : ∀ q ∈ r, q ∈ r' ∨ q.2.cls = .type "list" ∨ q.2.cls = .none) : ∀ {xs : List Addr} {ts : List TagV}, TagsAt w r xs ts → TagsAt w r' xs ts
  | [], [], _ => trivial
  | _ :: _, _ :: _, k => by
    obtain ⟨⟨dx, a, b, c, e, m1, m2⟩, k2⟩ := k
    exact ⟨⟨dx, a, b, c, e, (h _ m1).resolve_right (fun q => q.elim (fun q => nomatch q) (fun q => nomatch q)), (h _ m2).resolve_right (fun q => q.elim (fun q => absurd (Value.type.inj q) (by decide)) (fun q => nomatch q))⟩, k2.thinL h⟩
  | [], _ :: _, k => k.elim
  | _ :: _, [], k => k.elim
theorem RowsAt.thinL {r r' : Led} (h : ∀ q ∈ r, q ∈ r' ∨ q.2.cls = .type "list" ∨ q.2.cls = .none) : ∀ {xs : List Addr} {ts : List TagV}, RowsAt r xs ts → RowsAt r' xs ts
  | [], [], _ => trivial
  | _ :: _, _ :: _, k => ⟨(h _ k.1).resolve_right (fun q => q.elim (fun q => absurd (Value.type.inj q) (by decide)) (fun q => nomatch q)), RowsAt.thinL h k.2⟩
  | [], _ :: _, k => k.elim
  | _ :: _, [], k => k.elim
theorem off1_mem {D : Addr} : ∀ {l : Led}, LCg.Off1 D l → ∀ p ∈ l, p.1 ≠ D
  | [], _, _, h => nomatch h
  | _ :: _, k, p, h => by
    rcases List.mem_cons.mp h with rfl | h
    · exact k.1
    · exact off1_mem k.2 p h
theorem off_lt {r : Led} {a : Addr} (h : ∀ q ∈ r, @LT.lt Nat _ q.1 a) : ∀ q ∈ r, q.1 ≠ a := fun q hq => Nat.ne_of_lt (h q hq)
theorem news_off {h₀ h : Heap} {L : Addr} {news : Led} {a b : Addr} {o u : Obj} (N : News h₀ L h news) (m1 : (a, o) ∈ news) (m2 : (b, u) ∈ news) (d : o ≠ u) : a ≠ b := fun e => by
  subst e
  exact d (Option.some.inj ((N _ m1).1.symm.trans (N _ m2).1))
theorem code_cell {q : Str} {o u : Obj} {v : Option Value} (c : CodeObj q o) (d : u.data = .cell v) : o ≠ u := fun e => by
  obtain ⟨vs, t, h, _⟩ := c
  subst e
  rw [d] at h
  cases h
theorem two_eqv {news : Led} {xs : List Addr} {a b : Addr} {t1 t2 u1 u2 : TagV} (hx : RowsAt news xs [t1, t2]) (ha : (a, rowObj u1) ∈ news) (hb : (b, rowObj u2) ∈ news) (s : SameTags [u1, u2] [t1, t2]) : EqvA news 1 (xs.map Value.ref) [.ref a, .ref b] := rows_eqvS (ys := [a, b]) (ts := [u1, u2]) hx ⟨ha, hb, trivial⟩ s
theorem law_frame0_k (w : World) (news : Led) (rl : Addr) (c : Nat) (hrl : (rl, W.listOf #[] c) ∈ news) (pb : Array UInt8) (pt : Tok) :
    Ctr w 399 8 80 [.ref rl, .bytes pb pt] news (fun R => ∀ tl x tt ts' tk tp, Abv news tl → IsFrm w (tl ++ news) x (fv tt ts' tk tp pb) [] → R (tl ++ news) (.ref x)) := law_frame0_ok w news rl c hrl pb pt
theorem law_frame2_ok (w : World) (news : Led) (rl y1 y2 : Addr) (c : Nat) (t1 t2 : TagV) (hrl : (rl, W.listOf #[.ref y1, .ref y2] c) ∈ news) (h1 : (y1, rowObj t1) ∈ news) (h2 : (y2, rowObj t2) ∈ news) (pb : Array UInt8) (pt : Tok) :
    Ctr w 399 8 80 [.ref rl, .bytes pb pt] news (fun R => ∀ tl x tt ts' tk tp x1 x2, Abv news tl → IsFrm w (tl ++ news) x (fv tt ts' tk tp pb) [x1, x2] → TagsAt w (tl ++ news) [x1, x2] [t1, t2] → R (tl ++ news) (.ref x)) := by
  intro p loose mean mg mb dp un gd cn cs ad ccd cl outer A₀ base h₀ L m s Q E B F X N T hk hd' hu hret
  refine Ctr.use (law_frame_ok w news rl c [y1, y2] [t1, t2] hrl ⟨h1, h2, trivial⟩ (Nat.le_of_ble_eq_true rfl) pb pt) B F X N T hk hd' hu ?_
  intro tl x tt ts' tk tp xs hA hF hT h' tk' F' N'
  match xs, hT, hF with
  | [x1, x2], hT, hF => exact hret tl x tt ts' tk tp x1 x2 hA hF hT h' tk' F' N'
  | [], hT, _ => exact hT.elim
  | [_], hT, _ => exact hT.2.elim
  | _ :: _ :: _ :: _, hT, _ => exact hT.2.2.elim
section
theorem law_test : PySem.Challenge.rw_pf0386_01.Holds := by
  k_with_none
  w_top off
  k_with "k_mem" => first | assumption | exact List.mem_cons_self | (refine List.mem_cons_of_mem _ ?_; k_extra "k_mem") | (refine List.mem_append_right _ ?_; k_extra "k_mem") | (refine List.mem_append_left _ ?_; k_extra "k_mem")
  k_with "k_all" => assumption
  k_with "ktr_room" => ((try simp only [depth_under_make, depth_under_kw, depth_in1, depth_deeper, depth_caller]); (try dsimp only [ktrTop]); first | exact room0 (by with_reducible assumption) | exact room1 (by with_reducible assumption) rfl | exact room2 (by with_reducible assumption) rfl | exact room3 (by with_reducible assumption) rfl | exact Nat.le_of_ble_eq_true rfl | lia | omega)
  k_with "k_room" => ktr_room
  k_with "ktr_units" => ((try simp only [units_in1, units_deeper, Around.mark_units, units_caller]); (try dsimp only [ktrTop]); first | exact room0 (by with_reducible assumption) | exact room1 (by with_reducible assumption) rfl | exact room2 (by with_reducible assumption) rfl | exact room3 (by with_reducible assumption) rfl | exact Nat.le_of_ble_eq_true rfl | ((have hcL9 := cLine_is); (first | lia | omega)))
  k_with "k_enter" => (refine' code_defC ?k1_20 ?k2_20 ?k3_20 ?k4_20 ?k5_20 ?kA_20 ?kF_20 ?kK_20 ?k6_20 ?k7_20 ?k8_20 ?k9_20 ?kB_20 ?kD_20 ?_ ?c2_20 ?c3_20 ?c4_20; (case kA_20 => exact rfl); (case kF_20 => exact rfl); (case kK_20 => first | exact rfl | assumption); (case k1_20 => k_asm); (case k2_20 => k_asm); (case k3_20 => k_asm); (case k4_20 => k_asm); (case k5_20 => k_asm); (case k6_20 => k_is); (case k7_20 => k_is); (case k8_20 => k_room); (case k9_20 => first | exact BindsTo.of_eq rfl | exact binds_K (by k_in) rfl (by k_is) rfl rfl rfl | fail "k_enter: no rule for these arguments"); (case kB_20 => exact rfl); (case kD_20 => decide +kernel); (case c2_20 => exact rfl); (case c3_20 => exact rfl); (case c4_20 => exact rfl); k_whole; intro _ _ _ _ _ _ _ N' Y' B' _ _ l1; (try k_lt l1); k_cells Y'; (try simp only [List.cons_append, List.nil_append] at N'); (try dsimp only); (try k_lift B'); (try k_fold))
  k_with "k_enter" => (refine' code_def ?k1_0 ?k2_0 ?k3_0 ?k4_0 ?k5_0 ?kA_0 ?kF_0 ?kK_0 ?k6_0 ?k7_0 ?k8_0 ?k9_0 ?kB_0 ?_ ?c2_0 ?c3_0 ?c4_0 ?c5_0; (case kA_0 => exact rfl); (case kF_0 => exact rfl); (case kK_0 => first | exact rfl | assumption); (case k1_0 => k_asm); (case k2_0 => k_asm); (case k3_0 => k_asm); (case k4_0 => k_asm); (case k5_0 => k_asm); (case k6_0 => k_is); (case k7_0 => k_is); (case k8_0 => k_room); (case k9_0 => first | exact BindsTo.of_eq rfl | exact binds_K (by k_in) rfl (by k_is) rfl rfl rfl | fail "k_enter: no rule for these arguments"); (case c5_0 => decide); (case kB_0 => exact locs rfl); (case c2_0 => exact rfl); (case c3_0 => exact rfl); (case c4_0 => exact rfl); k_whole; intro _ _ _ _ _ _ B' _ _; (try dsimp only); (try k_lift B'); (try k_fold))
  k_with "o call type:tuple" => (k_here; (with_reducible show wpAny _ _ (call (Value.type _) [Value.ref _]) _ _ _); k_dflt (refine call_tuple_tup (News.isTup (by k_asm) (by k_extra "k_mem")) ?_))
  k_with "o call type:bytes" => (k_here; (with_reducible show wpAny _ _ (call (Value.type _) [Value.bytes _ _]) _ _ _); refine call_bytes_same ?_)
  k_with "o call type:tuple" => (k_here; (with_reducible show wpAny _ _ (call (Value.type _) [Value.ref _]) _ _ _); k_dflt (refine' tupleOf_ys ?F_18 ?N_18 ?hm_18 ?hz_18 ?_; (case F_18 => k_asm); (case N_18 => k_asm); (case hm_18 => k_extra "k_mem"); (case hz_18 => first | assumption | exact Nat.le_of_ble_eq_true rfl); k_whole); intro _ _ _ _ l1; (try k_lt l1); (try (revert l1; intro _)); (try k_sweep))
  k_with "o compareOp Eq ref ref" => (k_here; (with_reducible show wpAny _ _ (compareOp _ (Value.ref _) (Value.ref _)) _ _ _); k_dflt (refine' eq_tups_nil (by k_asm) ?ka_8 (by k_extra "k_mem") (by ktr_units) ?_; (case ka_8 => k_extra "k_mem")); (try simp only [reduceCtorEq, decide_false, decide_true, Bool.not_false, Bool.not_true]))
  k_with "o compareOp NotEq ref ref" => (k_here; (with_reducible show wpAny _ _ (compareOp _ (Value.ref _) (Value.ref _)) _ _ _); k_dflt (refine' ne_tups_nil (by k_asm) ?ka_9 (by k_extra "k_mem") (by ktr_units) ?_; (case ka_9 => k_extra "k_mem")); (try simp only [reduceCtorEq, decide_false, decide_true, Bool.not_false, Bool.not_true]))
  k_with "o subscriptTail" => (k_here; (with_reducible show wpAny _ _ (subscriptTail _ _ (Value.ref _) (Value.int 0 _)) _ _ _); k_dflt (refine item_ledT0 (News.isTup (by k_asm) (by k_extra "k_mem")) ?_))
  k_with "o subscriptTail" => (k_here; (with_reducible show wpAny _ _ (subscriptTail _ _ (Value.ref _) (Value.ref _)) _ _ _); k_dflt (refine' from_ledT1 ?F_13 ?N_13 ?ht_13 ?hz_13 ?_; (case F_13 => k_asm); (case N_13 => k_asm); (case ht_13 => k_extra "k_mem"); (case hz_13 => first | assumption | (simp only [List.length_map]; first | exact Nat.le_of_ble_eq_true rfl | lia | omega))); intro _ _ _ _ l1; (try k_lt l1); (try (revert l1; intro _)); (try k_sweep))
  k_with "o binaryOp Add ref ref" => (k_here; (with_reducible show wpAny _ _ (binaryOp _ (Value.ref _) (Value.ref _)) _ _ _); k_dflt (refine' add_ledTm ?F_14 ?N_14 ?ht_14 ?hb_14 ?hz_14 ?_; (case F_14 => k_asm); (case N_14 => k_asm); (case ht_14 => k_extra "k_mem"); (case hb_14 => k_extra "k_mem"); (case hz_14 => (simp only [List.length_map, List.length_nil]; first | exact Nat.le_of_ble_eq_true rfl | lia | omega))); intro _ _ _ _ _ _ _; (try k_sweep))
  k_with "o binaryOp Add ref ref" => (k_here; (with_reducible show wpAny _ _ (binaryOp _ (Value.ref _) (Value.ref _)) _ _ _); k_dflt (refine' add_ledT1 ?F_15 ?N_15 ?ht_15 ?hb_15 ?hz_15 ?_; (case F_15 => k_asm); (case N_15 => k_asm); (case ht_15 => k_extra "k_mem"); (case hb_15 => k_extra "k_mem"); (case hz_15 => (simp only [List.length_map, List.length_nil]; first | exact Nat.le_of_ble_eq_true rfl | lia | omega))); intro _ _ _ _ l1; (try k_lt l1); (try (revert l1; intro _)); (try k_sweep))
  k_with "o binaryOp Add ref ref" => (k_here; (with_reducible show wpAny _ _ (binaryOp _ (Value.ref _) (Value.ref _)) _ _ _); k_dflt (refine' add_ledT0 ?F_16 ?N_16 ?ht_16 ?hb_16 ?hz_16 ?_; (case F_16 => k_asm); (case N_16 => k_asm); (case ht_16 => k_extra "k_mem"); (case hb_16 => k_extra "k_mem"); (case hz_16 => (simp only [List.length_map, List.length_nil]; first | exact Nat.le_of_ble_eq_true rfl | lia | omega))))
  k_with "tbn_conj" => first | exact abv_nil | assumption | exact abv_one (by assumption) | (refine abv_next (by first | assumption | exact And.left (by assumption) | lia | omega) ?_; k_extra "tbn_conj") | exact abv_oneA (by first | assumption | exact And.right (by assumption) | exact And.right (And.right (by assumption))) | (refine abv_all (by assumption) ?_; k_extra "tbn_conj") | (refine abv_allA (by first | assumption | exact And.right (by assumption) | exact And.right (And.right (by assumption))) ?_; k_extra "tbn_conj") | (refine abv_allS (by assumption) (by simp only [List.cons_append, List.append_assoc, List.nil_append]) ?_; k_extra "tbn_conj") | (refine abv_app ?_ ?_ <;> k_extra "tbn_conj")
  k_with "o mem9" => (with_reducible first | exact List.mem_cons_self | (refine List.mem_cons_of_mem _ ?_; k_extra "o mem9") | (refine List.mem_append_right _ ?_; k_extra "o mem9") | (refine List.mem_append_left _ ?_; k_extra "o mem9") | assumption)
  k_with "o subv" => (with_reducible first | exact sub_rfl | exact sub_le | (refine sub_tl ?_; k_extra "o subv") | (refine sub_ri ?_; k_extra "o subv") | (refine sub_lf ?_; k_extra "o subv"))
  k_with "o sub9" => first | k_extra "o subv" | exact sub_nil | ((with_reducible refine sub_cons ?_ ?_); (k_extra "o mem9"); k_extra "o sub9") | ((with_reducible refine sub_app ?_ ?_); k_extra "o sub9"; k_extra "o sub9")
  k_with "o thin9" => first | exact all_nil | ((with_reducible refine all_cons ?_ ?_); (first | exact .inl (by k_extra "o mem9") | exact .inr (.inr rfl) | exact .inr (.inl rfl) | exact .inr (.inl ⟨_, by assumption⟩)); k_extra "o thin9") | ((with_reducible refine all_app ?_ ?_); k_extra "o thin9"; k_extra "o thin9") | ((with_reducible refine or_all ?_); k_extra "o subv")
  k_with "ktd_rel" => first | with_reducible assumption | ((with_reducible refine IsFrm.mono ?_ (by with_reducible assumption)); k_extra "o sub9") | ((with_reducible refine IsTag.mono ?_ (by with_reducible assumption)); k_extra "o sub9") | ((with_reducible refine TagsAt.mono ?_ (by with_reducible assumption)); k_extra "o sub9") | ((with_reducible refine RowsAt.mono ?_ (by with_reducible assumption)); k_extra "o sub9") | ((with_reducible refine' IsFrm.of ?q1_39 ?q2_39 ?q3_39); (case q1_39 => k_extra "k_mem"); (case q2_39 => k_extra "k_mem"); (case q3_39 => k_extra "k_mem")) | ((with_reducible refine' IsTag.of ?q1_39 ?q2_39); (case q1_39 => k_extra "k_mem"); (case q2_39 => k_extra "k_mem"))
  k_with "k_all" => first | (refine' allNe_of ?h1_45 ?h2_45; (case h1_45 => assumption); (case h2_45 => first | exact Nat.le_refl _ | exact Nat.le_succ _ | lia | omega)) | (refine' allNe_ofA ?h1_45 ?h2_45; (case h1_45 => assumption); (case h2_45 => first | exact Nat.le_refl _ | exact Nat.le_succ _ | lia | omega)) | (refine' allNe_ofA1 ?h1_45 ?h2_45; (case h1_45 => assumption); (case h2_45 => first | exact Nat.le_refl _ | exact Nat.le_succ _ | lia | omega)) | (refine' allNe_ofA2 ?h1_45 ?h2_45; (case h1_45 => assumption); (case h2_45 => first | exact Nat.le_refl _ | exact Nat.le_succ _ | lia | omega))
  k_with "o callWith ref" => (k_here; k_dflt (refine' callWith_K ?k1_70 ?k2_70 ?_; (case k1_70 => k_asm); (case k2_70 => k_is); k_whole))
  k_with "o subscriptTail Call" => (k_here; k_dflt (refine kba_turn (value' := PySem.Expr.Name (PySem.Str.ofString "_") ⟨0, 0, 0, 0⟩) (fun _ => rfl) ?_))
  k_with "o subscriptTail Subscript" => (k_here; k_dflt (refine kba_turn (value' := PySem.Expr.Name (PySem.Str.ofString "_") ⟨0, 0, 0, 0⟩) (fun _ => rfl) ?_))
  k_with "o subscriptTail Attribute" => (k_here; k_dflt (refine kba_turn (value' := PySem.Expr.Name (PySem.Str.ofString "_") ⟨0, 0, 0, 0⟩) (fun _ => rfl) ?_))
  k_with "o subscriptTail" => (k_here; (with_reducible show wpAny _ _ (subscriptTail _ _ (Value.ref _) (Value.int _ _)) _ _ _); k_dflt (refine' item_tupleT ?t_105 ?a_105 ?b_105 ?c_105 ?d_105 ?_; (case t_105 => exact News.isTup (by k_asm) (by first | exact List.mem_append_left _ (by with_reducible assumption) | with_reducible k_extra "k_mem")); (case a_105 => decide); (case b_105 => decide); (case c_105 => rfl); (case d_105 => rfl); k_whole))
  k_with "o subscriptTail" => (k_here; (with_reducible show wpAny _ _ (subscriptTail _ _ (Value.ref _) (Value.int (Int.ofNat _) _)) _ _ _); k_dflt (refine' item_lstI ?N_89 ?hm_89 ?hx_89 ?hz_89 ?_; (case N_89 => k_asm); (case hm_89 => with_reducible k_extra "k_mem"); (case hx_89 => assumption); (case hz_89 => first | exact Nat.le_of_ble_eq_true rfl | lia | omega)))
  k_with "o subscriptTail" => (k_here; (with_reducible show wpAny _ _ (subscriptTail _ _ (Value.ref _) (Value.int (Nat.cast _) _)) _ _ _); k_dflt (refine' item_lstI ?N_90 ?hm_90 ?hx_90 ?hz_90 ?_; (case N_90 => k_asm); (case hm_90 => with_reducible k_extra "k_mem"); (case hx_90 => assumption); (case hz_90 => first | exact Nat.le_of_ble_eq_true rfl | lia | omega)))
  k_with "o subscriptTail Name Slice ref ref" => (k_here; k_dflt (refine' from_lstI ?F_91 ?N_91 ?hm_91 ?hz_91 ?hw_91 ?_; (case F_91 => k_asm); (case N_91 => k_asm); (case hm_91 => with_reducible k_extra "k_mem"); (case hz_91 => first | exact Nat.le_of_ble_eq_true rfl | lia | omega); (case hw_91 => assumption)); intro _ _ _ _ l1; (try k_lt l1); (try (revert l1; intro _)); (try k_sweep))
  k_with "o call type:tuple" => (k_here; (with_reducible show wpAny _ _ (call (Value.type _) [Value.ref _]) _ _ _); k_dflt (refine' tupleOf_ys ?F_92 ?N_92 ?hm_92 ?hz_92 ?_; (case F_92 => k_asm); (case N_92 => k_asm); (case hm_92 => with_reducible k_extra "k_mem"); (case hz_92 => assumption); k_whole); intro _ _ _ _ l1; (try k_lt l1); (try (revert l1; intro _)); (try k_sweep))
  k_with "o compareOp NotEq ref ref" => (k_here; refine stop_of ?_)
  k_with "o zz" => (k_here; k_dflt (refine' ne_tups (n := 1) ?N_93 ?ha_93 ?hb_93 ?r_93 ?hu_93 ?_; (case N_93 => k_asm); (case ha_93 => with_reducible k_extra "k_mem"); (case hb_93 => with_reducible k_extra "k_mem"); (case hu_93 => ktr_units); (case r_93 => refine' ne_rows ?hx_93 ?hd_93 ?hy_93; (case hx_93 => k_extra "ktd_rel"); (case hd_93 => with_reducible k_extra "k_mem"); (case hy_93 => k_extra "ktd_rel"))))
  k_with "o subscriptTail Name Constant ref int" => (k_here; (with_reducible show wpAny _ _ (subscriptTail _ _ (Value.ref _) (Value.int _ _)) _ _ _); k_dflt (refine' item_tupleT ?t_106 ?a_106 ?b_106 ?c_106 ?d_106 ?_; (case t_106 => exact News.isTup (by k_asm) (by first | exact List.mem_append_left _ (by with_reducible assumption) | with_reducible assumption | with_reducible k_extra "k_mem")); (case a_106 => decide); (case b_106 => decide); (case c_106 => rfl); (case d_106 => rfl); k_whole))
  k_with "o call ref" => (k_here; (with_reducible show wpAny _ _ (call (Value.ref 399) _) _ _ _); refine stop_of ?_)
  k_with "o call ref" => (k_here; (with_reducible show wpAny _ _ (call (Value.ref 399) _) _ _ _); k_dflt (refine' Ctr.use (law_frame2_ok _ _ _ _ _ _ ⟨_, _, _, _, _, _, _⟩ ⟨_, _, _, _, _, _, _⟩ ?kr_116 ?m1_116 ?m2_116 _ _) ?k1_116 ?k2_116 ?k3_116 ?k4_116 ?k5_116 ?kK_116 ?kd_116 ?ku_116 ?_; (case k1_116 => k_asm); (case k2_116 => k_asm); (case k3_116 => k_asm); (case k4_116 => k_asm); (case k5_116 => k_asm); (case kK_116 => first | exact rfl | assumption); (case kd_116 => ktr_room); (case ku_116 => ktr_units); (case kr_116 => with_reducible k_extra "k_mem"); (case m1_116 => with_reducible k_extra "k_mem"); (case m2_116 => with_reducible k_extra "k_mem"); k_whole; intros; (try dsimp only); (try k_sweep); (have h90 := (by with_reducible assumption : TagsAt _ _ _ _)); (have h91 := h90.1); (have h92 := h90.2); (clear h90); (revert h91 h92; intro _ _); (try k_fold)))
  k_with "o call ref" => (k_here; (with_reducible show wpAny _ _ (call (Value.ref 399) _) _ _ _); k_dflt (refine' Ctr.use (law_frame0_ok _ _ _ _ ?kc_109 _ _) ?k1_109 ?k2_109 ?k3_109 ?k4_109 ?k5_109 ?kK_109 ?kd_109 ?ku_109 ?_; (case k1_109 => k_asm); (case k2_109 => k_asm); (case k3_109 => k_asm); (case k4_109 => k_asm); (case k5_109 => k_asm); (case kK_109 => first | exact rfl | assumption); (case kd_109 => ktr_room); (case ku_109 => ktr_units); (case kc_109 => with_reducible k_extra "k_mem"); k_whole; intros; (try dsimp only); (try k_sweep); (try k_fold)))
  k_with "o call ref" => (k_here; (with_reducible show wpAny _ _ (call (Value.ref 366) _) _ _ _); refine stop_of ?_)
  k_with "o call ref" => (k_here; (with_reducible show wpAny _ _ (call (Value.ref 366) _) _ _ _); k_dflt (refine' Ctr.use (with_priority_ok _ _ _ _ _ _ _ ?kc_117 ?kt_117 ?kz_117 _ _) ?k1_117 ?k2_117 ?k3_117 ?k4_117 ?k5_117 ?kK_117 ?kd_117 ?ku_117 ?_; (case k1_117 => k_asm); (case k2_117 => k_asm); (case k3_117 => k_asm); (case k4_117 => k_asm); (case k5_117 => k_asm); (case kK_117 => first | exact rfl | assumption); (case kd_117 => ktr_room); (case ku_117 => ktr_units); (case kc_117 => k_extra "ktd_rel"); (case kt_117 => k_extra "ktd_rel"); (case kz_117 => exact Nat.le_of_ble_eq_true rfl); k_whole; intros; (try dsimp only); (try k_sweep); (have hfr8 := (by with_reducible assumption : IsFrm _ _ _ _ _)); (rcases hfr8 with ⟨_, _, _, _, _, _, _, _, _, _⟩); (try k_fold)))
  k_with "o call ref" => (k_here; (with_reducible show wpAny _ _ (call (Value.ref 359) _) _ _ _); refine stop_of ?_)
  k_with "o call ref" => (k_here; (with_reducible show wpAny _ _ (call (Value.ref 359) _) _ _ _); k_dflt (refine' Ctr.use (with_vlan_ok _ _ _ _ _ _ _ ?kc_118 ?kt_118 ?kz_118 _ _) ?k1_118 ?k2_118 ?k3_118 ?k4_118 ?k5_118 ?kK_118 ?kd_118 ?ku_118 ?_; (case k1_118 => k_asm); (case k2_118 => k_asm); (case k3_118 => k_asm); (case k4_118 => k_asm); (case k5_118 => k_asm); (case kK_118 => first | exact rfl | assumption); (case kd_118 => ktr_room); (case ku_118 => ktr_units); (case kc_118 => k_extra "ktd_rel"); (case kt_118 => k_extra "ktd_rel"); (case kz_118 => exact Nat.le_of_ble_eq_true rfl); k_whole; intros; (try dsimp only); (try k_sweep); (have hfr8 := (by with_reducible assumption : IsFrm _ _ _ _ _)); (rcases hfr8 with ⟨_, _, _, _, _, _, _, _, _, _⟩); (try k_fold)))
  k_with "o call ref" => (k_here; (with_reducible show wpAny _ _ (call (Value.ref 253) _) _ _ _); refine stop_of ?_)
  k_with "o call ref" => (k_here; (with_reducible show wpAny _ _ (call (Value.ref 253) _) _ _ _); k_dflt (refine' Ctr.use (frame_told _ _ _ _ _ _ ?kc_119 ?kt_119 ?kn_119) ?k1_119 ?k2_119 ?k3_119 ?k4_119 ?k5_119 ?kK_119 ?kd_119 ?ku_119 ?_; (case k1_119 => k_asm); (case k2_119 => k_asm); (case k3_119 => k_asm); (case k4_119 => k_asm); (case k5_119 => k_asm); (case kK_119 => first | exact rfl | assumption); (case kd_119 => ktr_room); (case ku_119 => ktr_units); (case kc_119 => k_extra "ktd_rel"); (case kt_119 => first | k_extra "ktd_rel" | exact TagsAt.cons_ (by k_extra "ktd_rel") (by k_extra "ktd_rel")); (case kn_119 => exact Nat.le_of_ble_eq_true rfl); k_whole; intros; (try dsimp only); (try k_sweep); (try k_fold)))
  k_with "o exec For Name Call cons nil" => (k_here; k_dflt (refine' For_rngG ?F_88 ?B_88 ?XB_88 ?TB_88 ?T0_88 ?c1_88 ?c2_88 ?_ ?c3_88 ?c4_88; (case F_88 => k_asm); (case B_88 => assumption); (case XB_88 => assumption); (case TB_88 => assumption); (case T0_88 => first | assumption | exact KtsTurn.refl); (case c1_88 => exact rfl); (case c2_88 => exact rfl); (case c3_88 => exact fun _ => rfl); (case c4_88 => passes_own)))
  k_with "o RngAt" => (k_here; refine stop_of ?_)
  k_with "o call builtin:len" => (k_here; (with_reducible show wpAny _ _ (call (Value.builtin _) [Value.ref _]) _ _ _); k_dflt (refine len_led (isList_keep (by k_asm) (by assumption)) (by (first | lia | omega)) ?_))
  k_with "o storeName" => (k_here; (with_reducible show wpAny _ _ (storeName (envX _ _ _ _ _ _) (Str.ofString "source") _) _ _ _); refine stop_of ?_)
  k_with "o call ref" => (k_here; (with_reducible show wpAny _ _ (call (Value.ref 380) _) _ _ _); refine stop_of ?_)
  k_with "o call ref" => (k_here; (with_reducible show wpAny _ _ (call (Value.ref 380) _) _ _ _); k_dflt (refine' Ctr.use (take_ok _ _ _ _ _ _ _ _ _ _ ?c1_3 ?c2_3 ?c3_3 ?c4_3 ?c5_3 ?c6_3) ?k1_3 ?k2_3 ?k3_3 ?k4_3 ?k5_3 ?kK_3 ?kd_3 ?ku_3 ?_; (case k1_3 => k_asm); (case k2_3 => k_asm); (case k3_3 => k_asm); (case k4_3 => k_asm); (case k5_3 => k_asm); (case kK_3 => first | exact rfl | assumption); (case kd_3 => ktr_room); (case ku_3 => ktr_units); (case c1_3 => assumption); (case c2_3 => first | exact Nat.le_of_ble_eq_true rfl | lia | omega); (case c3_3 => first | exact Nat.le_of_ble_eq_true rfl | lia | omega); (case c4_3 => assumption); (case c5_3 => assumption); (case c6_3 => assumption); k_whole; intros; (try dsimp only); (try k_sweep); (try k_fold)))
  k_with "o eval ListComp" => (k_here; k_dflt (refine' ListComp_rng ?zF_120 ?z1_120 ?z2_120 ?z3_120 ?z4_120 ?z5_120 ?_ ?z6_120; (case zF_120 => k_asm); (case z1_120 => exact rfl); (case z2_120 => decide); (case z3_120 => exact rfl); (case z4_120 => decide); (case z5_120 => exact rfl); (case z6_120 => exact fun _ => rfl)))
  k_with "o exec Assign cons ListComp" => (k_here; k_dflt (refine' LCg.Assign_ListComp_U ?zF_121 ?zL_121 ?z0_121 ?z1_121 ?z2_121 ?z3_121 ?z4_121 ?z5_121 ?z7_121 ?z8_121 ?_ ?z6_121; (case zF_121 => k_asm); (case zL_121 => exact rfl); (case z0_121 => exact rfl); (case z1_121 => exact rfl); (case z2_121 => decide); (case z3_121 => exact rfl); (case z4_121 => decide); (case z5_121 => exact rfl); (case z7_121 => exact rfl); (case z8_121 => exact rfl); (case z6_121 => exact fun _ => rfl)))
  k_with "o CompSrc" => (k_here; refine stop_of ?_)
  k_with "o RngSrc" => (k_here; refine stop_of ?_)
  k_with "o binaryOp Mult ref int" => (k_here; (with_reducible show wpAny _ _ (binaryOp Operator.Mult (Value.ref _) (Value.int _ _)) _ _ _); k_dflt (refine' KMa.mul (vs := [Value.int _ _]) ?F_122 ?N_122 ?l_122 ?lo_122 ?hi_122 ?z_122 ?e_122 ?_; (case F_122 => k_asm); (case N_122 => k_asm); (case l_122 => exact News.isList (by k_asm) List.mem_cons_self); (case lo_122 => decide); (case hi_122 => decide); (case z_122 => exact Nat.le_of_ble_eq_true rfl); (case e_122 => exact rfl)); intro _ _ _ _ l1; (try k_lt l1); (try (revert l1; intro _)); (try k_sweep))
  k_with "o call type:bytes" => (k_here; (with_reducible show wpAny _ _ (call (Value.type "bytes") [Value.ref _]) _ _ _); refine stop_of ?_)
  k_with "o call ref" => (k_here; (with_reducible show wpAny _ _ (call (Value.ref 411) _) _ _ _); refine stop_of ?_)
  k_with "o call ref" => (k_here; (with_reducible show wpAny _ _ (call (Value.ref 373) _) _ _ _); refine stop_of ?_)
  k_with "o call ref" => (k_here; (with_reducible show wpAny _ _ (call (Value.ref 425) _) _ _ _); refine stop_of ?_)
  k_with "o call ref" => (k_here; (with_reducible show wpAny _ _ (call (Value.ref 432) _) _ _ _); refine stop_of ?_)
  k_with "o call ref" => (k_here; (with_reducible show wpAny _ _ (call (Value.ref 394) _) _ _ _); refine stop_of ?_)
  refine hd ?_
  refine ⟨?_, ?_⟩
  · exact left_hd
  · k_go0
    all_goals try k_fold
    all_goals k_steps
    unfold Stop
    rename_i q1 q2 q3 q4 q5 q6 q7 q8 q9 q10 q11 q12 q13 q14 q15 q16 q17 q18 q19 q20 q21 q22 q23 q24 q25 q26 q27 q28 q29 q30 q31 q32 q33 q34 q35 q36 q37 q38 q39 q40 q41 q42 q43 q44 q45 q46 q47 q48 q49 q50 q51 q52 q53 q54 q55 q56 q57 q58 q59 q60 q61 q62 q63 q64 q65 q66 q67 q68 q69 q70 q71 q72 q73 q74 q75 q76 q77 q78 q79 q80 q81 q82 q83 q84 q85 q86 q87 q88 q89 q90 q91 q92 q93 q94 q95 q96 q97 q98 q99 q100 q101 q102 q103 q104 q105 q106 q107 q108 q109 q110 q111 q112 q113 q114 q115 q116 q117
    refine' ne_tups (n := 1) ?N1 ?ha1 ?hb1 ?r1 ?hu1 ?_
    (case N1 => exact q116)
    (case ha1 => exact List.mem_cons_of_mem _ (List.mem_cons_of_mem _ (List.mem_cons_of_mem _ (List.mem_append_left _ q103))))
    (case hb1 => exact List.mem_cons_self)
    (case hu1 => ktr_units)
    (case r1 => exact two_eqv (u1 := ⟨_, _, _, _, _, _, _⟩) (u2 := ⟨_, _, _, _, _, _, _⟩) (q104.mono fun q hq => List.mem_cons_of_mem _ (List.mem_cons_of_mem _ (List.mem_cons_of_mem _ hq))) (List.mem_cons_of_mem _ (List.mem_cons_of_mem _ List.mem_cons_self)) (List.mem_cons_of_mem _ List.mem_cons_self) ⟨⟨rfl, rfl, rfl, rfl⟩, ⟨rfl, rfl, rfl, rfl⟩, trivial⟩)
    have nn := news_subX q116 (fun q hq => List.mem_cons_of_mem _ (List.mem_cons_of_mem _ (List.mem_cons_of_mem _ (List.mem_append_right _ (List.mem_append_right _ hq)))))
    clear q116 q117 q112 q109 q104 q103 q102 q101 q100 q93 q92 q91 q83 q82 q81
    k_steps
    unfold Stop
    rename_i r1 r2 r3 r4 r5 r6 r7 r8 r9 r10 r11 r12 r13 r14 r15 r16 r17 r18 r19 r20 r21 r22 r23 r24 r25 r26 r27 r28 r29 r30 r31 r32 r33 r34 r35 r36 r37 r38 r39 r40 r41 r42
    refine' ne_tups (n := 1) ?N2 ?ha2 ?hb2 ?r2 ?hu2 ?_
    (case N2 => exact r41)
    (case ha2 => exact List.mem_cons_of_mem _ (List.mem_cons_of_mem _ (List.mem_cons_of_mem _ (List.mem_append_left _ r28))))
    (case hb2 => exact List.mem_cons_self)
    (case hu2 => ktr_units)
    (case r2 => exact two_eqv (u1 := ⟨_, _, _, _, _, _, _⟩) (u2 := ⟨_, _, _, _, _, _, _⟩) (r29.mono fun q hq => List.mem_cons_of_mem _ (List.mem_cons_of_mem _ (List.mem_cons_of_mem _ hq))) (List.mem_cons_of_mem _ (List.mem_cons_of_mem _ List.mem_cons_self)) (List.mem_cons_of_mem _ List.mem_cons_self) ⟨⟨rfl, rfl, rfl, rfl⟩, ⟨rfl, rfl, rfl, rfl⟩, trivial⟩)
    have nn2 := news_subX (l := [(q3.heap.objs.size + 1, q44), (427, tabObj #[]), (408, tabObj #[])]) r41 (by k_extra "o sub9")
    clear r41 r42 r37 r34 r29 r28 r27 r26 r25 r18 r17 r16 r8 r7 r6
    k_steps
    unfold Stop
    rename_i s1 s2 s3 s4 s5 s6 s7 s8 s9 s10 s11 s12 s13 s14 s15 s16 s17
    have HLB : (ghostOf q3.heap [(431, 427), (410, 408)]).IsList q30 q31.toArray := ghost_list hT9 q33
    have hget : ∀ i : Nat, i < q31.length → ∃ z t, q31[i]? = some (Value.int z t) := fun _ h => ints_get q37 h
    have hvz : q31.length ≤ 63 := by
      have e : q31.length = q22.length := ints_len q37
      rw [e]; (first | lia | omega)
    have hfx : IsFrm q1 (s6 ++ [(s1, W.listOf #[] 0), (q3.heap.objs.size + 1, q44), (427, tabObj #[])]) s7 (fv s8 s9 s10 s11 #[]) [] := s13.thin (by k_extra "o thin9")
    have hn408 : ∀ q ∈ s6 ++ [(s1, W.listOf #[] 0), (q3.heap.objs.size + 1, q44), (427, tabObj #[])], q.1 ≠ 408 := by
      refine all_app ?_ ?_
      · intro q hq
        exact Nat.ne_of_gt (s12 (408, tabObj #[]) (by with_reducible k_extra "k_mem") q hq)
      refine all_cons ?_ ?_
      · exact Nat.ne_of_gt s5.2.2
      refine all_cons ?_ ?_
      · exact Nat.ne_of_gt (Nat.lt_succ_of_lt q51.2)
      · intro q hq
        rw [List.mem_singleton.mp hq]; exact (by decide : (427 : Nat) ≠ 408)
    refine' CtrS.use (bare_fresh q1 _ s7 _ hfx 5 6 _ _ hn408) ?b1 ?b2 ?b3 ?b4 ?b5 ?bXB ?bTB ?bD ?bT0 ?bH1 ?bH2 ?bkK ?bkd ?bku ?_
    (case b2 => exact s16)
    (case b1 => exact q49)
    (case b3 => exact q47)
    (case b4 => exact news_subX s17 (by k_extra "o sub9"))
    (case b5 => exact q48)
    (case bXB => exact q47)
    (case bTB => exact q48)
    (case bD => exact ktsDicts_nil)
    (case bT0 => exact KtsTurn.refl)
    (case bH1 => exact codeHd)
    (case bH2 => exact q50)
    (case bkK => first | exact rfl | assumption)
    (case bkd => ktr_room)
    (case bku => ktr_units)
    intro c1 c2 c3 o1 o2 o3 hlt1 h408 h12 h23 hk1 hk2 hk3 g1 h1 tk1 KT1 F1 N1 B1 X1 T1 D1
    have M1 := news_subX (l := (q3.heap.objs.size + 1, q44) :: ([(427, tabObj #[])] ++ [(c3, o3), (c2, o2), (c1, o1), (408, bareTab c1 c2 c3)])) N1 (by k_extra "o sub9")
    have h427 : ∀ p ∈ [(c3, o3), (c2, o2), (c1, o1), (408, bareTab c1 c2 c3)], p.1 ≠ 427 := by
      have e1 : @LT.lt Nat _ 427 c1 := hlt1 (427, tabObj #[]) (by with_reducible k_extra "k_mem")
      refine all_cons ?_ ?_
      · exact Nat.ne_of_gt (Nat.lt_trans e1 (Nat.lt_trans h12 h23))
      refine all_cons ?_ ?_
      · exact Nat.ne_of_gt (Nat.lt_trans e1 h12)
      refine all_cons ?_ ?_
      · exact Nat.ne_of_gt e1
      · intro q hq
        rw [List.mem_singleton.mp hq]; exact (by decide : (408 : Nat) ≠ 427)
    have hcS : ∀ p ∈ [(427, tabObj #[])] ++ [(c3, o3), (c2, o2), (c1, o1), (408, bareTab c1 c2 c3)], p.1 ≠ q3.heap.objs.size + 1 := by
      have e1 : @LT.lt Nat _ (q3.heap.objs.size + 1) c1 := hlt1 (q3.heap.objs.size + 1, q44) (by with_reducible k_extra "k_mem")
      refine all_cons ?_ ?_
      · exact Nat.ne_of_lt (Nat.lt_succ_of_lt q51.1)
      refine all_cons ?_ ?_
      · exact Nat.ne_of_gt (Nat.lt_trans e1 (Nat.lt_trans h12 h23))
      refine all_cons ?_ ?_
      · exact Nat.ne_of_gt (Nat.lt_trans e1 h12)
      refine all_cons ?_ ?_
      · exact Nat.ne_of_gt e1
      · intro q hq
        rw [List.mem_singleton.mp hq]; exact Nat.ne_of_lt (Nat.lt_succ_of_lt q51.2)
    clear N1 hlt1 hn408 hfx s17 s16 s13 s12 s4 s3
    have mB0 : (408, bareTab c1 c2 c3) ∈ [(c3, o3), (c2, o2), (c1, o1), (408, bareTab c1 c2 c3)] := by with_reducible k_extra "k_mem"
    have mB1 : (c1, o1) ∈ [(c3, o3), (c2, o2), (c1, o1), (408, bareTab c1 c2 c3)] := by with_reducible k_extra "k_mem"
    have mB2 : (c2, o2) ∈ [(c3, o3), (c2, o2), (c1, o1), (408, bareTab c1 c2 c3)] := by with_reducible k_extra "k_mem"
    have mB3 : (c3, o3) ∈ [(c3, o3), (c2, o2), (c1, o1), (408, bareTab c1 c2 c3)] := by with_reducible k_extra "k_mem"
    generalize [(c3, o3), (c2, o2), (c1, o1), (408, bareTab c1 c2 c3)] = BL at M1 h427 hcS mB0 mB1 mB2 mB3
    have HL1 : g1.IsList q30 q31.toArray := let ⟨o, e, r⟩ := HLB; ⟨o, B1.stays _ _ e, r⟩
    k_steps
    unfold Stop
    rename_i v1 v2 v3 v4 v5 v6 v7 v8 v9 v10 v11 v12 v13 v14 v15 v16 v17 v18 v19
    obtain ⟨nn, hnn, hn3⟩ : ∃ nn : Nat, (if (if (3 : Int) < (q22.length : Int) then (3 : Int) else (q22.length : Int)) > 1 then (if (3 : Int) < (q22.length : Int) then (3 : Int) else (q22.length : Int)) else 1) = (nn : Int) ∧ nn ≤ 3 := by
      refine ⟨(if (if (3 : Int) < (q22.length : Int) then (3 : Int) else (q22.length : Int)) > 1 then (if (3 : Int) < (q22.length : Int) then (3 : Int) else (q22.length : Int)) else 1).toNat, ?_, ?_⟩ <;> (repeat' split) <;> (first | lia | omega)
    rw [hnn] at v16
    have sm : Builtin.Range.small 0 (nn : Int) 1 = true := small_one (by decide) (by decide) (by (first | lia | omega)) (by (first | lia | omega))
    have sz : Builtin.Range.rangeSize 0 (nn : Int) 1 = ((nn : Nat) : Int) := by rw [rangeSize_one]; split <;> (first | lia | omega)
    refine ⟨_, 0, _, 1, _, _, _, nn, _, _, g1, LawJ (q3.heap.objs.size + 1) BL _, rfl, rfl, GPS.of B1 X1 T1 D1 KT1, v17, v18, v16, sm, sz, ⟨_, _, _, _, _, q44, _, _, law_set0, q45, rfl, hcS, .inl ⟨rfl, h427⟩⟩, ?_, ?_⟩
    · rintro i t g h tk I oI m₁ nw hi hoI G ⟨A1, A2, A3, A4, A5, oS, vS, X7, rfl, hoS, rfl, hoff, h7⟩ F2 N2 off
      obtain ⟨T2, B2, X2, P2, K2⟩ := G
      rw [show (0 : Int) + (i : Int) * 1 = (i : Int) by (first | lia | omega)] at F2
      have HL2 : g.IsList q30 q31.toArray := let ⟨o, e, r⟩ := HLB; ⟨o, B2.stays _ _ e, r⟩
      clear HL1 v18 v17 v16 v8 v7
      show wpAny _ _ _ _ _ _
      k_fold
      k_steps
      unfold Stop
      refine' pool_ok q1 _ q30 q31 hget hvz _ ?hkk _ _ _ _ _ _ _ _ _ _ _ _ _ _ _ _ _ _ _ _ _ _ _ HL2 B2 ?p2 X2 ?p4 P2 ?pK ?pd ?pu ?_
      (case p2 => k_asm)
      (case p4 => k_asm)
      (case hkk => (first | lia | omega))
      (case pK => first | exact rfl | assumption)
      (case pd => ktr_room)
      (case pu => ktr_units)
      intro src sa sb sta stb sn hsrc hsa hsb1 hsb2 h3 tk3 F3 N3
      k_steps
      have ofS : ∀ p ∈ (src, srcObj sa sb sta stb sn) :: (I, oI) :: (X7 ++ BL), p.1 ≠ q3.heap.objs.size + 1 := by
        refine all_cons ?_ ?_
        · exact Nat.ne_of_gt (hsrc (q3.heap.objs.size + 1, oS) (List.mem_cons_of_mem _ List.mem_cons_self))
        refine all_cons ?_ ?_
        · exact fun e => off _ List.mem_cons_self e.symm
        · intro p hp
          exact hoff p hp
      refine' storeX_C F3 (news_subX (l := (q3.heap.objs.size + 1, oS) :: (src, srcObj sa sb sta stb sn) :: (I, oI) :: (X7 ++ BL)) N3 ?sub3) ?lk3 (.head ofS) hoS ?_ ?ka3 ?kb3
      (case sub3 => k_extra "o sub9")
      (case lk3 => rfl)
      (case ka3 => rfl)
      (case kb3 => rfl)
      intro h4 oS2 F4 N4 hoS2
      have N5 := news_subX (l := (src, srcObj sa sb sta stb sn) :: (q3.heap.objs.size + 1, oS2) :: (I, oI) :: (X7 ++ BL)) N4 (by k_extra "o sub9")
      have hosrc : ∀ p ∈ (q3.heap.objs.size + 1, oS2) :: (I, oI) :: (X7 ++ BL), p.1 ≠ src := by
        refine all_cons ?_ ?_
        · exact Nat.ne_of_lt (hsrc (q3.heap.objs.size + 1, oS) (List.mem_cons_of_mem _ List.mem_cons_self))
        refine all_cons ?_ ?_
        · exact Nat.ne_of_lt (hsrc _ List.mem_cons_self)
        · intro p hp
          exact Nat.ne_of_lt (hsrc p (List.mem_cons_of_mem _ (List.mem_cons_of_mem _ hp)))
      clear F3 N3 N4 F2 N2
      k_steps
      unfold Stop
      rename_i e1 ja jb jta jtb jv jtv hja hjb1 hjb2 hjv1 hjv2 e13 e14 F5 N6 h6 e18 t6 u6 w6 hr6 F6 N7 hg6
      obtain ⟨nr, hnr⟩ : ∃ nr : Nat, (1 : Int) + jv = (nr : Int) := ⟨(1 + jv).toNat, by (first | lia | omega)⟩
      rw [hnr] at hr6
      have hnr1 : 1 ≤ nr ∧ nr ≤ 4 := by (first | lia | omega)
      have smr : Builtin.Range.small 0 (nr : Int) 1 = true := small_one (by decide) (by decide) (by (first | lia | omega)) (by (first | lia | omega))
      have szr : Builtin.Range.rangeSize 0 (nr : Int) 1 = ((nr : Nat) : Int) := by rw [rangeSize_one]; split <;> (first | lia | omega)
      refine LCg.CompSrc.range rfl F6 N7 hr6 smr szr (by rw [sizeLine_eq]; (first | lia | omega)) (fun gg => compRest_inv (n := nr) (fun i vs nw => ∃ (ys : List Addr) (ts : List TagV) (tl : Led) (a b : Int) (ta tb : Tok), vs = ys.map .ref ∧ nw = (src, srcObj a b ta tb sn) :: (tl ++ ((q3.heap.objs.size + 1, oS2) :: (I, oI) :: (X7 ++ BL))) ∧ 0 ≤ a ∧ 0 ≤ b ∧ b < 2147483647 ∧ (∀ p ∈ tl, @LT.lt Nat _ src p.1) ∧ RowsAt (tl ++ ((q3.heap.objs.size + 1, oS2) :: (I, oI) :: (X7 ++ BL))) ys ts ∧ (∀ t ∈ ts, RowOk t) ∧ ts.length = i) ?_ ?_ _ 0 [] _ (Nat.zero_add _) ⟨[], [], [], ja, jb, jta, jtb, rfl, rfl, hja, hjb1, hjb2, (fun _ h => nomatch h), trivial, (fun _ h => nomatch h), rfl⟩)
      · rintro j vs nw v R hj ⟨ys, ts, tl, ra, rb, rta, rtb, rfl, rfl, hra, hrb1, hrb2, htl, hrows, hok, hlen⟩ ⟨tj, rfl⟩ hR I2 oI2 C2 oC2 D2 m2 h7' tk7 E7 hNs hx2 F8 N8 off2 ne2
        clear N5 F4 F5 N6 F6 N7 hr6
        k_steps
        unfold Stop
        have ofr : ∀ p ∈ (I2, oI2) :: (C2, oC2) :: (D2, LCg.lst (ys.map Value.ref)) :: (tl ++ ((q3.heap.objs.size + 1, oS2) :: (I, oI) :: (X7 ++ BL))), p.1 ≠ src := by
          have o9 := off2.mem (src, srcObj ra rb rta rtb sn) List.mem_cons_self
          refine all_cons ?_ ?_
          · exact fun e => o9.1 e.symm
          refine all_cons ?_ ?_
          · exact fun e => o9.2.1 e.symm
          refine all_cons ?_ ?_
          · exact fun e => o9.2.2 e.symm
          refine all_app ?_ ?_
          · intro p hp
            exact Nat.ne_of_gt (htl p hp)
          · intro p hp
            exact hosrc p hp
        refine' Ctr.use (row_ok q1 _ src ra rb rta rtb sn ofr hra hrb1 hrb2) ?w1 ?w2 ?w3 ?w4 ?w5 ?wK ?wd ?wu ?_
        (case w1 => k_asm)
        (case w2 => k_asm)
        (case w3 => k_asm)
        (case w4 => exact news_subX N8 (by k_extra "o sub9"))
        (case w5 => k_asm)
        (case wK => first | exact rfl | assumption)
        (case wd => ktr_room)
        (case wu => ktr_units)
        intro ra' rb' rta' rtb' y9 t9 hra' hrb1' hrb2' hrow9 hlt9 hsy9 h9 tk9 F9 N9
        refine LCg.CompEnd.intro F9 N9 ((src, srcObj ra' rb' rta' rtb' sn) :: (((y9, rowObj t9) :: tl) ++ ((q3.heap.objs.size + 1, oS2) :: (I, oI) :: (X7 ++ BL)))) ?_ (LCg.Off3.of fun p hp => ?_) trivial (hR _ _ ⟨ys ++ [y9], ts ++ [t9], (y9, rowObj t9) :: tl, ra', rb', rta', rtb', by simp, rfl, hra', hrb1', hrb2', ?_, ?_, ?_, by simp [hlen]⟩)
        · k_extra "o sub9"
        · rcases List.mem_cons.mp hp with rfl | hp
          · exact off2.mem (src, srcObj ra rb rta rtb sn) List.mem_cons_self
          rcases List.mem_cons.mp hp with rfl | hp
          · exact ⟨Nat.ne_of_gt (hlt9 _ List.mem_cons_self), Nat.ne_of_gt (hlt9 _ (List.mem_cons_of_mem _ List.mem_cons_self)), Nat.ne_of_gt (hlt9 _ (List.mem_cons_of_mem _ (List.mem_cons_of_mem _ List.mem_cons_self)))⟩
          · exact off2.mem p (List.mem_cons_of_mem _ hp)
        · refine all_cons ?_ ?_
          · exact hsy9
          · intro p hp
            exact htl p hp
        · exact RowsAt.snoc List.mem_cons_self (hrows.mono fun q hq => List.mem_cons_of_mem _ hq)
        · refine all_app ?_ ?_
          · intro tq hq
            exact hok tq hq
          · intro tq hq
            rw [List.mem_singleton.mp hq]; exact hrow9
      · rintro vs nw ⟨ys, ts, tl, ra, rb, rta, rtb, rfl, rfl, hra, hrb1, hrb2, htl, hrows, hok, hlen⟩
        clear N5 F4 F5 N6 F6 N7 hr6
        k_steps
        unfold Stop
        rename_i D9 h10 tk10 F10 N10 o10
        have ofd : ∀ p ∈ (D9, LCg.lst (ys.map Value.ref)) :: (tl ++ ((q3.heap.objs.size + 1, oS2) :: (I, oI) :: (X7 ++ BL))), p.1 ≠ src := by
          refine all_cons ?_ ?_
          · exact fun e => o10.1 e.symm
          refine all_app ?_ ?_
          · intro p hp
            exact Nat.ne_of_gt (htl p hp)
          · intro p hp
            exact hosrc p hp
        refine' Ctr.use (take_ok q1 _ src ra rb rta rtb sn 256 _ ofd (by decide) (by decide) hra hrb1 hrb2) ?y1 ?y2 ?y3 ?y4 ?y5 ?yK ?yd ?yu ?_
        (case y1 => k_asm)
        (case y2 => exact F10)
        (case y3 => k_asm)
        (case y4 => exact news_subX N10 (by k_extra "o sub9"))
        (case y5 => k_asm)
        (case yK => first | exact rfl | assumption)
        (case yd => ktr_room)
        (case yu => ktr_units)
        intro ra2 rb2 rta2 rtb2 va vat hra2 hrb21 hrb22 hva1 hva2 h11 tk11 F11 N11
        clear F10 N10
        k_steps
        unfold Stop
        rename_i p1 D11 h12 F12 N12 l12
        refine KBa.make_K F12 N12 rfl (News.isList N12 List.mem_cons_self) (rep_ints va vat 46) (fun n hn => by rw [List.eq_of_mem_replicate hn]; exact ⟨hva1, hva2⟩) (by rw [List.length_replicate]; decide) ?_
        intro h13 tb13 tk13 F13 N13 hin
        have hpb := KBa.ints_make hin
        have N14 := news_subX (l := (D9, LCg.lst (ys.map Value.ref)) :: (src, srcObj ra2 rb2 rta2 rtb2 sn) :: (tl ++ ((q3.heap.objs.size + 1, oS2) :: (I, oI) :: (X7 ++ BL)))) N13 (by k_extra "o sub9")
        clear F12 N12 l12 N13
        k_steps
        unfold Stop
        refine' Ctr.use (law_frame_ok q1 _ D9 _ ys ts ?ur ?uro (by (first | lia | omega)) _ _) ?u1 ?u2 ?u3 ?u4 ?u5 ?uK ?ud ?uu ?_
        (case u1 => k_asm)
        (case u2 => k_asm)
        (case u3 => k_asm)
        (case u4 => exact N14)
        (case u5 => k_asm)
        (case ur => exact List.mem_cons_self)
        (case uro => exact hrows.mono fun q hq => List.mem_cons_of_mem _ (List.mem_cons_of_mem _ hq))
        (case uK => first | exact rfl | assumption)
        (case ud => ktr_room)
        (case uu => ktr_units)
        intro tlF xF ttF tsF tkF tpF xsF hAF hFF hTF h15 tk15 F15 N15
        have ofL : ∀ p ∈ tlF ++ (D9, LCg.lst (ys.map Value.ref)) :: (tl ++ ((q3.heap.objs.size + 1, oS2) :: (I, oI) :: (X7 ++ BL))), p.1 ≠ src := by
          refine all_app ?_ ?_
          · intro p hp
            exact Nat.ne_of_gt (hAF (src, srcObj ra2 rb2 rta2 rtb2 sn) (List.mem_cons_of_mem _ List.mem_cons_self) p hp)
          · intro p hp
            exact ofd p hp
        have N16 := news_subX (l := (src, srcObj ra2 rb2 rta2 rtb2 sn) :: (tlF ++ (D9, LCg.lst (ys.map Value.ref)) :: (tl ++ ((q3.heap.objs.size + 1, oS2) :: (I, oI) :: (X7 ++ BL))))) N15 (by k_extra "o sub9")
        clear N15
        try clear N14
        try clear F13
        try clear N11
        k_steps
        unfold Stop
        rename_i z1 z2 z3 z4 z5 z6 z7 z8 z9 z10 z11 z12 z13 z14 z15 z16 z17 z18 z19 z20 z21 z22 z23 z24 z25 z26 z27 z28 z29
        have hN17 := news_subX (l := (src, srcObj z9 z10 z11 z12 sn) :: (tlF ++ (D9, LCg.lst (ys.map Value.ref)) :: (tl ++ ((q3.heap.objs.size + 1, oS2) :: (I, oI) :: (X7 ++ BL))))) z29 (fun q hq => List.mem_cons_of_mem _ hq)
        have hF2 : IsFrm q1 (tlF ++ (D9, LCg.lst (ys.map Value.ref)) :: (tl ++ ((q3.heap.objs.size + 1, oS2) :: (I, oI) :: (X7 ++ BL)))) xF (fv ttF tsF tkF tpF (byteArr (List.replicate 46 va))) xsF := hFF.thinL (by k_extra "o thin9")
        have hT2 : TagsAt q1 (tlF ++ (D9, LCg.lst (ys.map Value.ref)) :: (tl ++ ((q3.heap.objs.size + 1, oS2) :: (I, oI) :: (X7 ++ BL)))) xsF ts := hTF.thinL (by k_extra "o thin9")
        have hR2 : RowsAt (tlF ++ (D9, LCg.lst (ys.map Value.ref)) :: (tl ++ ((q3.heap.objs.size + 1, oS2) :: (I, oI) :: (X7 ++ BL)))) ys ts := hrows.mono fun q hq => List.mem_append_right _ (List.mem_cons_of_mem _ hq)
        refine' CtrS.use (taken_right_ok q1 _ D9 xF _ _ xsF ys ts (hF2.mono fun q hq => List.mem_cons_of_mem _ hq) (hT2.mono fun q hq => List.mem_cons_of_mem _ hq) (List.mem_cons_of_mem _ (List.mem_append_right _ List.mem_cons_self)) (hR2.mono fun q hq => List.mem_cons_of_mem _ hq) (by (first | lia | omega)) _ _ _ _ c1 c2 c3 o1 o2 o3 ?tm0 ?tm1 ?tm2 ?tm3 hk1 hk2 hk3) ?t1 ?t2 ?t3 ?t4 ?t5 ?tXB ?tTB ?tD ?tT0 ?tH1 ?tH2 ?tkK ?tkd ?tku ?_
        (case t2 => exact z28)
        (case t4 => exact hN17)
        (case tm0 => with_reducible k_extra "k_mem")
        (case tm1 => with_reducible k_extra "k_mem")
        (case tm2 => with_reducible k_extra "k_mem")
        (case tm3 => with_reducible k_extra "k_mem")
        (case t1 => exact B2)
        (case t3 => exact X2)
        (case t5 => exact P2)
        (case tXB => exact q47)
        (case tTB => exact q48)
        (case tD => exact K2)
        (case tT0 => exact T2)
        (case tH1 => exact codeHd)
        (case tH2 => exact q50)
        (case tkK => first | exact rfl | assumption)
        (case tkd => ktr_room)
        (case tku => ktr_units)
        intro g21 h21 tk21 T21 F21 N21 B21 X21 P21 D21
        clear z29 z28 hN17
        k_steps
        unfold Stop
        have hb46 : KBw.bInts (byteArr (List.replicate 46 va)) = List.replicate 46 va := hpb
        have hl46 : (List.replicate 46 va).length = 46 := List.length_replicate
        rcases h7 with ⟨rfl, hBL⟩ | ⟨k1, k2, w1, w2, rfl, hw1, hw2⟩
        · have sg : @LT.lt Nat _ 427 src := hsrc (427, tabObj #[]) (by with_reducible k_extra "k_mem")
          have hofR : ∀ p ∈ (tlF ++ (D9, LCg.lst (ys.map Value.ref)) :: (tl ++ ((q3.heap.objs.size + 1, oS2) :: (I, oI) :: BL))), p.1 ≠ src := fun p hp => ofL p ((show ∀ q ∈ (tlF ++ (D9, LCg.lst (ys.map Value.ref)) :: (tl ++ ((q3.heap.objs.size + 1, oS2) :: (I, oI) :: BL))), q ∈ (tlF ++ (D9, LCg.lst (ys.map Value.ref)) :: (tl ++ ((q3.heap.objs.size + 1, oS2) :: (I, oI) :: ([(427, tabObj #[])] ++ BL)))) from by k_extra "o sub9") p hp)
          have h7R : ∀ p ∈ (tlF ++ (D9, LCg.lst (ys.map Value.ref)) :: (tl ++ ((q3.heap.objs.size + 1, oS2) :: (I, oI) :: BL))), p.1 ≠ 427 := by
            refine all_app ?_ ?_
            · intro p hp
              exact Nat.ne_of_gt (hAF (427, tabObj #[]) (by with_reducible k_extra "k_mem") p hp)
            refine all_cons ?_ ?_
            · exact fun e => (off1_mem o10.2 (427, tabObj #[]) (by with_reducible k_extra "k_mem")) e.symm
            refine all_app ?_ ?_
            · intro p hp
              exact Nat.ne_of_gt (Nat.lt_trans sg (htl p hp))
            refine all_cons ?_ ?_
            · exact fun e => hoff (427, tabObj #[]) (by with_reducible k_extra "k_mem") e.symm
            refine all_cons ?_ ?_
            · exact fun e => off (427, tabObj #[]) (by with_reducible k_extra "k_mem") e.symm
            · intro p hp
              exact hBL p hp
          have hF3 : IsFrm q1 (tlF ++ (D9, LCg.lst (ys.map Value.ref)) :: (tl ++ ((q3.heap.objs.size + 1, oS2) :: (I, oI) :: BL))) xF (fv ttF tsF tkF tpF (byteArr (List.replicate 46 va))) xsF := hF2.thinL (by k_extra "o thin9")
          have hT3 : TagsAt q1 (tlF ++ (D9, LCg.lst (ys.map Value.ref)) :: (tl ++ ((q3.heap.objs.size + 1, oS2) :: (I, oI) :: BL))) xsF ts := hT2.thinL (by k_extra "o thin9")
          have hR3 : RowsAt (tlF ++ (D9, LCg.lst (ys.map Value.ref)) :: (tl ++ ((q3.heap.objs.size + 1, oS2) :: (I, oI) :: BL))) ys ts := hR2.thinL (by k_extra "o thin9")
          have N23 := news_subX (l := (427, tabObj #[]) :: (src, srcObj z9 z10 z11 z12 sn) :: (tlF ++ (D9, LCg.lst (ys.map Value.ref)) :: (tl ++ ((q3.heap.objs.size + 1, oS2) :: (I, oI) :: BL)))) N21 (by k_extra "o sub9")
          refine' CtrS.use (octets_fresh q1 (tlF ++ (D9, LCg.lst (ys.map Value.ref)) :: (tl ++ ((q3.heap.objs.size + 1, oS2) :: (I, oI) :: BL))) src D9 xF _ z9 z10 z11 z12 sn ttF tsF tkF tpF _ xsF ys ts _ hofR (Nat.ne_of_gt sg) h7R z15 z16 z17 hF3 hT3 (List.mem_append_right _ List.mem_cons_self) hR3 hok (by (first | lia | omega)) (by (first | lia | omega)) hb46 hl46) ?t1 ?t2 ?t3 ?t4 ?t5 ?tXB ?tTB ?tD ?tT0 ?tH1 ?tH2 ?tkK ?tkd ?tku ?_
          (case t2 => exact F21)
          (case t4 => exact N23)
          (case t1 => exact B21)
          (case t3 => exact X21)
          (case t5 => exact P21)
          (case tXB => exact q47)
          (case tTB => exact q48)
          (case tD => exact D21)
          (case tT0 => exact T21)
          (case tH1 => exact codeHd)
          (case tH2 => exact q50)
          (case tkK => first | exact rfl | assumption)
          (case tkd => ktr_room)
          (case tku => ktr_units)
          intro k1 k2 w1 w2 ra3 rb3 rta3 rtb3 hk1R hk2R hw1 hw2 hra3 hrb31 hrb32 g22 h22 tk22 T22 F22 N22 B22 X22 P22 D22
          clear N21 N23
          k_steps
          refine ForEnd.of (GPS.of B22 X22 P22 D22 T22) F22 (news_subX (l := (I, oI) :: (q3.heap.objs.size + 1, oS2) :: ([(k2, w2), (k1, w1), (427, octTab k1 k2)] ++ BL)) N22 ?_) ?_ ⟨_, _, _, _, _, oS2, _, _, law_set, hoS2, rfl, ?_, .inr ⟨k1, k2, w1, w2, rfl, hw1, hw2⟩⟩
          · k_extra "o sub9"
          · refine all_cons ?_ ?_
            · exact off (q3.heap.objs.size + 1, oS) List.mem_cons_self
            refine all_cons ?_ ?_
            · exact Nat.ne_of_gt (hk2R (I, oI) (by with_reducible k_extra "k_mem"))
            refine all_cons ?_ ?_
            · exact Nat.ne_of_gt (hk1R (I, oI) (by with_reducible k_extra "k_mem"))
            refine all_cons ?_ ?_
            · exact off (427, tabObj #[]) (by with_reducible k_extra "k_mem")
            · intro p hp
              exact off p (List.mem_cons_of_mem _ (List.mem_append_right _ hp))
          · refine all_cons ?_ ?_
            · exact Nat.ne_of_gt (hk2R (q3.heap.objs.size + 1, oS2) (by with_reducible k_extra "k_mem"))
            refine all_cons ?_ ?_
            · exact Nat.ne_of_gt (hk1R (q3.heap.objs.size + 1, oS2) (by with_reducible k_extra "k_mem"))
            refine all_cons ?_ ?_
            · exact hoff (427, tabObj #[]) (by with_reducible k_extra "k_mem")
            · intro p hp
              exact hoff p (List.mem_append_right _ hp)
        · have N24 := news_subX (l := (src, srcObj z9 z10 z11 z12 sn) :: (tlF ++ (D9, LCg.lst (ys.map Value.ref)) :: (tl ++ ((q3.heap.objs.size + 1, oS2) :: (I, oI) :: ([(k2, w2), (k1, w1), (427, octTab k1 k2)] ++ BL))))) N21 (fun q hq => hq)
          refine' CtrS.use (octets_hit q1 (tlF ++ (D9, LCg.lst (ys.map Value.ref)) :: (tl ++ ((q3.heap.objs.size + 1, oS2) :: (I, oI) :: ([(k2, w2), (k1, w1), (427, octTab k1 k2)] ++ BL)))) src D9 xF _ z9 z10 z11 z12 sn ttF tsF tkF tpF _ xsF ys ts _ ofL k1 k2 w1 w2 ?tm0 ?tm1 ?tm2 hw1 hw2 z15 z16 z17 hF2 hT2 (List.mem_append_right _ List.mem_cons_self) hR2 hok (by (first | lia | omega)) (by (first | lia | omega)) hb46 hl46) ?t1 ?t2 ?t3 ?t4 ?t5 ?tXB ?tTB ?tD ?tT0 ?tH1 ?tH2 ?tkK ?tkd ?tku ?_
          (case t2 => exact F21)
          (case t4 => exact N24)
          (case t1 => exact B21)
          (case t3 => exact X21)
          (case t5 => exact P21)
          (case tXB => exact q47)
          (case tTB => exact q48)
          (case tD => exact D21)
          (case tT0 => exact T21)
          (case tH1 => exact codeHd)
          (case tH2 => exact q50)
          (case tkK => first | exact rfl | assumption)
          (case tkd => ktr_room)
          (case tku => ktr_units)
          (case tm0 => with_reducible k_extra "k_mem")
          (case tm1 => with_reducible k_extra "k_mem")
          (case tm2 => with_reducible k_extra "k_mem")
          intro ra3 rb3 rta3 rtb3 hra3 hrb31 hrb32 g22 h22 tk22 T22 F22 N22 B22 X22 P22 D22
          clear N21 N24
          k_steps
          refine ForEnd.of (GPS.of B22 X22 P22 D22 T22) F22 (news_subX (l := (I, oI) :: (q3.heap.objs.size + 1, oS2) :: ([(k2, w2), (k1, w1), (427, octTab k1 k2)] ++ BL)) N22 ?_) ?_ ⟨_, _, _, _, _, oS2, _, _, law_set, hoS2, rfl, hoff, .inr ⟨k1, k2, w1, w2, rfl, hw1, hw2⟩⟩
          · k_extra "o sub9"
          · refine all_cons ?_ ?_
            · exact off (q3.heap.objs.size + 1, oS) List.mem_cons_self
            · intro p hp
              exact off p (List.mem_cons_of_mem _ hp)
    · rintro g h tk m₁ nw G F2 N2 ⟨A1, A2, A3, A4, A5, oS, vS, X7, rfl, hoS, rfl, hoff, h7⟩
      obtain ⟨T2, B2, X2, P2, K2⟩ := G
      have gw : GrownAll [(431, 427), (410, 408)] h := by
        rcases h7 with ⟨rfl, _⟩ | ⟨k1, k2, z1, z2, rfl, _⟩
        · exact ⟨GrownAt.of N2 (by with_reducible k_extra "k_mem"), GrownAt.of N2 (by with_reducible k_extra "k_mem"), trivial⟩
        · exact ⟨GrownAt.of N2 (by with_reducible k_extra "k_mem"), GrownAt.of N2 (by with_reducible k_extra "k_mem"), trivial⟩
      have hkeep : ∀ b o, (ghostOf q3.heap [(431, 427), (410, 408)]).get? b = some o → h.get? b = some o := fun b o e => F2.keep b o (B2.stays b o e)
      have Fb := Fr.mk F2.ns hkeep (Nat.le_trans (Nat.le_of_eq (by first | exact T2.size | exact T2.size.symm)) F2.above)
      clear F2
      clear HL1 v18 v17 v16 v8 v7
      iterate 4 (first | (k_unfold; (try dsimp only)) | (k_end; kc_close) | walk1 | (dsimp only; walk1) | (leave1; walk_say "STEP leave1"; (try dsimp only)))
      · (k_end; kc_close)
      · exact gw
end
end
end Mine
theorem PySem.Challenge.cw_pf0386_01_holds : PySem.Challenge.rw_pf0386_01.Holds := by
  exact Mine.law_test
