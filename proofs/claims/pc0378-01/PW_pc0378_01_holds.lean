import PyProof.Rows.All
import Wide.All
import OpenK.AllK
import Wide.FinOn
import PySem.Challenge.RW_pc0378_01
open PySem PySem.W PyProof.Rows
set_option linter.all false
set_option Elab.async false
set_option maxRecDepth 100000
namespace Mine
theorem cut3 {T U V G : Prop} (main : T → U → V → G) (hl : T) (hw : U) (hc : V) : G := main hl hw hc
set_option maxRecDepth 100000 in
set_option maxHeartbeats 1500000 in
theorem mk0 : False → PySem.W.OpenRow.Holds PySem.Challenge.rw_pc0378_01.row := by
  intro F
  have said : PySem.Challenge.rw_pc0378_01.row.wellSaid = true := F.elim
  apply cut3
  case main =>
    intro h1 h2 h3
    clear h1 h2 h3
    k_head
  case hl => exact F.elim
  case hw => exact F.elim
  case hc => exact F.elim

/-- a run over a tree of objects, its tests and its step handed in -/
noncomputable def runT (thr ok : Thread → Bool) (stp : SharedT → Thread → Option (SharedT × Thread)) : Nat → SharedT → Thread → Option SharedT
  | 0, _, _ => none
  | n + 1, s, t => match thr t with
    | true => some s
    | false => match ok t with
      | false => none
      | true => match stp s t with
        | some (s', t') => runT thr ok stp n s' t'
        | none => none
theorem runT_of {tb : String → Option Builtin} {p : Program} {w : World} {n₀ : Nat} {ann : Option Value} : ∀ {n : Nat} {s s' : SharedT} {t : Thread},
    runT through (stepOk n₀ ann) (stepT (denote tb) p w) n s t = some s' → topRun tb p w n₀ ann n s.abs t = some s'.abs
  | 0, _, _, _, h => by cases h
  | n + 1, s, s', t, h => by
    unfold runT at h
    unfold topRun
    cases ht : through t with
    | true => rw [ht] at h; cases h; rfl
    | false =>
      rw [ht] at h
      cases hk : stepOk n₀ ann t with
      | false => rw [hk] at h; cases h
      | true =>
        rw [hk] at h
        cases hs : stepT (denote tb) p w s t with
        | none => rw [hs] at h; cases h
        | some r => obtain ⟨s₂, t₂⟩ := r; rw [hs] at h; rw [stepT_spec hs]; exact runT_of h
/-- a balanced tree over the places of a function -/
noncomputable def treeOf (f : Nat → Obj) (m : Nat) : Nat → Nat → Nat → BT
  | 0, _, _ => .nil
  | k + 1, a, b => match Nat.blt b m with
    | true => .node (f b) (treeOf f m k (2 * a) (a + b)) (treeOf f m k (2 * a) (2 * a + b))
    | false => .nil
noncomputable def bootT (P : Params) : BT := treeOf (fun i => (boot_heap P).objs.toList.getD i default) (boot_heap P).objs.size 12 1 0
theorem boot_abs (P : Params) : absHeap (bootT P) (boot_heap P).objs.size (boot_heap P).life = boot_heap P := by kernel_rfl!
noncomputable def s0 (w : World) (os : OsState) : SharedT := ⟨bootT w.params, (boot_heap w.params).objs.size, (boot_heap w.params).life, Array.mk [], boot_drawn, boot_toks, os⟩
abbrev pg : Program := PySem.Challenge.rw_pc0378_01.row.prog
noncomputable def run1 (w : World) (os : OsState) : Option SharedT :=
  runT through (PySem.W.Fast.tw6613529449190102663 (boot_heap w.params).objs.size ((boot_heap w.params).nsMap mainGlobals "__annotations__")) (PySem.W.Fast.tw10156331382660048174 (PySem.W.Fast.tw11892475500146522536 PySem.W.Fast.tw14364793385576792824) pg w) 3000 (s0 w os) (topStub pg)

noncomputable def asK : List Addr := [2, 3, 15, 17, 18, 20, 21, 22, 30, 32, 33, 35, 36, 37, 39, 40, 42, 43, 44, 46, 47, 49, 50, 51, 52, 53, 54, 55, 65, 66, 68, 69, 71, 72, 73, 75, 76, 78, 79, 80, 82, 83, 85, 86, 87, 88, 89, 90, 91, 94, 96, 97, 99, 100, 101, 103, 104, 106, 107, 108, 110, 111, 113, 114, 115, 117, 118, 120, 121, 122, 124, 125, 127, 128, 129, 131, 132, 134, 135, 136, 138, 139, 141, 142, 143, 145, 146, 148, 149, 150, 152, 153, 155, 156, 157, 159, 160, 162, 163, 164, 166, 167, 169, 170, 171, 173, 174, 176, 177, 185, 186, 188, 189, 191, 192, 193, 195, 196, 198, 199, 200, 201, 202, 203, 204, 214, 216, 217, 219, 220, 221, 223, 224, 226, 227, 228, 230, 231, 233, 234, 235, 236, 237, 238, 239, 249, 251, 252, 254, 255, 256, 258, 259, 261, 262, 263, 265, 266, 268, 269, 270, 271, 272, 273, 274, 284, 286, 287, 289, 290, 291, 293, 294, 296, 297, 298, 300, 301, 303, 304, 305, 307, 308, 310, 311, 312, 314, 315, 317, 318, 319, 320, 321, 322, 323, 326, 328, 329, 331, 332, 333, 335, 336, 338, 339, 340, 342, 343, 345, 346, 347, 349, 350, 352, 353, 354, 356, 357, 359, 360, 361, 364, 365, 366, 368, 369, 371, 372, 373, 375, 376, 378, 379, 380, 382, 383, 385, 386, 387, 389, 390, 392, 393, 394, 396, 397, 399, 400, 401, 403, 404, 406, 407, 408, 411, 412, 413, 415, 416, 418, 419]
theorem asK_is (P : Params) : asK = (mk0.heap_1 P).map (·.1) := by kernel_rfl!
noncomputable abbrev viewX (s : Shared) : Bool := xlAt mk0.view_1 [] s && recOk PySem.Challenge.rw_pc0378_01.row.records s
abbrev lo0 : List Str := [Str.ofString "Bpdu"]
/-- an object looked up in the tree: the heap's own list is walked step by step, which is dear -/
noncomputable def getT (s : SharedT) (a : Addr) : Option Obj := match Nat.blt a s.n with
  | true => alive ((s.tree.get a).getD default)
  | false => none
theorem getT_eq (s : SharedT) (a : Addr) : s.abs.heap.get? a = getT s a := by
  unfold getT
  cases h : Nat.blt a s.n with
  | true =>
    have h' : a < s.n := Nat.blt_eq.mp h
    show (absHeap s.tree s.n s.life).get? a = alive ((s.tree.get a).getD default)
    unfold Heap.get?
    rw [absHeap_at, if_pos h']
    show (match some ((s.tree.get a).getD default) with | some ⟨_, _, .freed, _⟩ => none | o => o) = _
    generalize (s.tree.get a).getD default = o
    obtain ⟨c, d, dt, sl⟩ := o
    cases dt <;> rfl
  | false => exact abs_get_none fun q => by rw [Nat.blt_eq.mpr q] at h; cases h
noncomputable def seenK (s : SharedT) : List (Option Obj) := asK.map (getT s)
noncomputable abbrev goodK (w : World) : List (Option Obj) := (mk0.heap_1 w.params).map fun p => some p.2
noncomputable def looks1 (w : World) (s : SharedT) := (staticsOk (importedModules pg.main.body) (boot_heap w.params) s.abs.heap && namesBound pg s.abs.heap && gensDone s.abs && laidKept (boot_heap w.params) s.abs.heap, PySem.W.Fast.tw4187177175401517315 mk0.view_1 lo0 (importedModules pg.main.body) viewX true s.abs, seenK s)
theorem tst (w : World) (os : OsState) : (run1 w os).map (looks1 w) = some (true, openGood mk0.view_1 lo0, goodK w) := by kernel_rfl

noncomputable abbrev hkK : PySem.W.Hook := PySem.W.kHook mk0.heap_1 asK asK_is
theorem left_all : LeftO pg mk0.view_1 lo0 viewX hkK.obs hkK.val 3000 true := fun w => by
  obtain ⟨⟨h, gs, d, k, os⟩, e, e'⟩ := Option.map_eq_some_iff.mp (boot_open (p := pg) (N := 3000) rfl rfl (fun _ => rfl) w)
  obtain ⟨rfl, rfl, rfl, rfl⟩ : h = boot_heap w.params ∧ gs = Array.mk [] ∧ d = boot_drawn ∧ k = boot_toks := by simpa using e'
  obtain ⟨sT, hr, hl⟩ := Option.map_eq_some_iff.mp (tst w os)
  have r0 : runT through (stepOk (boot_heap w.params).objs.size ((boot_heap w.params).nsMap mainGlobals "__annotations__")) (stepT (denote treeTable) pg w) 3000 (s0 w os) (topStub pg) = some sT := by
    rw [PySem.W.Fast.te6613529449190102663, PySem.W.Fast.te10156331382660048174, PySem.W.Fast.te11892475500146522536, PySem.W.Fast.te14364793385576792824]
    exact hr
  have r := runT_of r0
  have ha : (s0 w os).abs = ⟨boot_heap w.params, Array.mk [], boot_drawn, boot_toks, os⟩ := by
    exact congrArg (fun h => (⟨h, Array.mk [], boot_drawn, boot_toks, os⟩ : Shared)) (boot_abs w.params)
  rw [ha] at r
  have hl' := hl
  unfold looks1 at hl'
  rw [← PySem.W.Fast.te4187177175401517315] at hl'
  obtain ⟨l1, l2⟩ := Prod.mk.inj hl'
  obtain ⟨l2, l3⟩ := Prod.mk.inj l2
  have t : topFrom treeTable pg w 3000 ⟨boot_heap w.params, Array.mk [], boot_drawn, boot_toks, os⟩ = some sT.abs := by
    unfold topFrom
    dsimp only
    have z1 : ((boot_heap w.params).isNs mainGlobals && (Array.mk [] : Array GenState).size == 0) = true := by kernel_rfl
    rw [z1, r]
    show (match staticsOk (importedModules pg.main.body) (boot_heap w.params) sT.abs.heap && namesBound pg sT.abs.heap && gensDone sT.abs && laidKept (boot_heap w.params) sT.abs.heap with | true => _ | false => _) = _
    rw [l1]
  unfold openEnds
  rw [e, Option.bind_some, t]
  exact congrArg some (Prod.ext l2 ((congrArg (fun f => asK.map f) (funext fun a => getT_eq sT a)).trans l3))

abbrev lo : List Str := [Str.ofString "Bpdu"]
/-- a call's contract: over every frame, with this ledger, it comes back with what Post says -/
def Con (prog : Program) (w : World) (dep : Nat) (f : Addr) (vs : List Value) (news : List (Addr × Obj)) (Post : Value → List (Addr × Obj) → Prop) : Prop :=
  ∀ (mean : ExcName → Option Value) (mg mb : Str → Option Value) (dp un : Nat) (gd : Option (List Code)) (cn : Str) (cs : Scope) (a : Addr) (ccd : Value) (cl : List (Str × Addr)) (outer : List Env) (A₀ : Around) (base h₀ : Heap) (L : Addr) (m : Str → Option Value) (s : Shared) (Q E : Value → Shared → Prop),
    Below A₀ base outer h₀ → Fr h₀ L s.heap m → (mk0.heap_1 w.params).In h₀ → News h₀ L s.heap news → Top mk0.view_1 (looseW mk0.view_1 lo) mean mg mb h₀ → cs.kind = .function → dp + dep < recursionLimit → un + 8 * dep < cLine →
    (∀ (v : Value) (news' : List (Addr × Obj)) (h' : Heap) (tk' : Nat), Post v news' → Fr h₀ L h' m → News h₀ L h' news' → Q v { s with heap := h', toks := tk' }) →
    wpAny (model prog w) (ktrTop dp un gd cn cs L a ccd cl outer) (call (.ref f) vs) Q E s
theorem con_use {prog : Program} {w : World} {dep : Nat} {f : Addr} {vs : List Value} {news : List (Addr × Obj)} {Post : Value → List (Addr × Obj) → Prop} (C : Con prog w dep f vs news Post)
    {mean : ExcName → Option Value} {mg mb : Str → Option Value} {dp un : Nat} {gd : Option (List Code)} {cn : Str} {cs : Scope} {a : Addr} {ccd : Value} {cl : List (Str × Addr)} {outer : List Env} {A₀ : Around} {base h₀ : Heap} {L : Addr} {m : Str → Option Value} {s : Shared} {Q E : Value → Shared → Prop}
    (B : Below A₀ base outer h₀) (F : Fr h₀ L s.heap m) (X : (mk0.heap_1 w.params).In h₀) (N : News h₀ L s.heap news) (T : Top mk0.view_1 (looseW mk0.view_1 lo) mean mg mb h₀) (hk : cs.kind = .function) (hd : dp + dep < recursionLimit) (hu : un + 8 * dep < cLine)
    (ret : ∀ (v : Value) (news' : List (Addr × Obj)), Post v news' → ∀ (h' : Heap) (tk' : Nat), Fr h₀ L h' m → News h₀ L h' news' → Q v { s with heap := h', toks := tk' }) :
    wpAny (model prog w) (ktrTop dp un gd cn cs L a ccd cl outer) (call (.ref f) vs) Q E s :=
  C mean mg mb dp un gd cn cs a ccd cl outer A₀ base h₀ L m s Q E B F X N T hk hd hu fun v l h' tk' p => ret v l p h' tk'
/-- the written part's addresses are apart, and apart from the rest's -/
def Apart (as : List Addr) (rest : List (Addr × Obj)) : Prop := as.Nodup ∧ ∀ a ∈ as, ∀ p ∈ rest, p.1 ≠ a
section
variable {as : List Addr} {rest l l' : List (Addr × Obj)} {d x : Addr} {o o' : Obj} {g : Obj → List (Addr × Obj)}
theorem split_at {n : Nat} (e1 : l.drop n = rest) : l = l.take n ++ rest := by rw [← e1, List.take_append_drop]
theorem Apart.nil : Apart [] rest := ⟨List.nodup_nil, fun _ h => nomatch h⟩
theorem Apart.add (D : Apart as rest) (h : ∀ p : Addr × Obj, p ∈ l → p.1 < d) (e1 : l.drop as.length = rest) (e2 : (l.take as.length).map (·.1) = as) : Apart (d :: as) rest := by
  refine ⟨List.nodup_cons.mpr ⟨fun hd => ?_, D.1⟩, fun a ha p hp => ?_⟩
  · rw [← e2] at hd
    obtain ⟨p, hp, rfl⟩ := List.mem_map.mp hd
    exact absurd (h p (List.mem_of_mem_take hp)) (Nat.lt_irrefl _)
  · rcases List.mem_cons.mp ha with rfl | ha
    · exact Nat.ne_of_lt (h p (by rw [split_at e1]; exact List.mem_append_right _ hp))
    · exact D.2 a ha p hp
theorem Apart.add2 (D : Apart (d :: as) rest) (h : ∀ p : Addr × Obj, p ∈ l → p.1 < d) (h2 : d < x) (e1 : l.drop as.length = rest) (e2 : (l.take as.length).map (·.1) = as) : Apart (x :: d :: as) rest := by
  refine ⟨List.nodup_cons.mpr ⟨fun hd => ?_, D.1⟩, fun a ha p hp => ?_⟩
  · rcases List.mem_cons.mp hd with rfl | hd
    · exact absurd h2 (Nat.lt_irrefl _)
    · rw [← e2] at hd
      obtain ⟨p, hp, rfl⟩ := List.mem_map.mp hd
      exact absurd (Nat.lt_trans (h p (List.mem_of_mem_take hp)) h2) (Nat.lt_irrefl _)
  · rcases List.mem_cons.mp ha with rfl | ha
    · exact Nat.ne_of_lt (Nat.lt_trans (h p (by rw [split_at e1]; exact List.mem_append_right _ hp)) h2)
    · exact D.2 a ha p hp
theorem Apart.count (D : Apart as rest) (hm : d ∈ as) (e1 : l.drop as.length = rest) (e2 : (l.take as.length).map (·.1) = as) : (l.map (·.1)).count d = 1 := by
  have z : (rest.map (·.1)).count d = 0 := List.count_eq_zero.mpr fun hd => by
    obtain ⟨p, hp, e⟩ := List.mem_map.mp hd
    exact D.2 d hm p hp e
  have y : as.count d = 1 := (List.Nodup.count D.1).trans (if_pos hm)
  rw [split_at e1, List.map_append, e2, List.count_append, z, y]
inductive Put (d : Addr) (o o' : Obj) : List (Addr × Obj) → List (Addr × Obj) → Prop
  | head {r} : Put d o o' ((d, o) :: r) ((d, o') :: r)
  | tail {p r r'} : Put d o o' r r' → Put d o o' (p :: r) (p :: r')
inductive At (d : Addr) (o : Obj) : List (Addr × Obj) → (Obj → List (Addr × Obj)) → Prop
  | head {r} : At d o ((d, o) :: r) (fun o' => (d, o') :: r)
  | tail {p r g} : At d o r g → At d o (p :: r) (fun o' => p :: g o')
theorem Put.upd (P : Put d o o' l l') (c : (l.map (·.1)).count d = 1) : Upd d o o' l l' := by
  induction P with
  | head =>
    rw [List.map_cons, List.count_cons_self] at c
    refine .head fun p hp e => ?_
    have := List.count_eq_zero.mp (Nat.succ.inj c)
    exact this (List.mem_map.mpr ⟨p, hp, e⟩)
  | @tail p r r' P ih =>
    rw [List.map_cons, List.count_cons] at c
    have hm : 0 < (r.map (·.1)).count d := by
      clear ih c
      induction P with
      | head => rw [List.map_cons, List.count_cons_self]; exact Nat.succ_pos _
      | tail _ ih => rw [List.map_cons, List.count_cons]; omega
    by_cases e : (p.1 == d) = true
    · rw [if_pos e] at c; omega
    · rw [if_neg e] at c
      exact .tail (fun q => e (beq_iff_eq.mpr q)) (ih c)
theorem At.updF (P : At d o l g) (c : (l.map (·.1)).count d = 1) : UpdF d o l g := by
  induction P with
  | head =>
    rw [List.map_cons, List.count_cons_self] at c
    refine .head fun p hp e => ?_
    have := List.count_eq_zero.mp (Nat.succ.inj c)
    exact this (List.mem_map.mpr ⟨p, hp, e⟩)
  | @tail p r r' P ih =>
    rw [List.map_cons, List.count_cons] at c
    have hm : 0 < (r.map (·.1)).count d := by
      clear ih c
      induction P with
      | head => rw [List.map_cons, List.count_cons_self]; exact Nat.succ_pos _
      | tail _ ih => rw [List.map_cons, List.count_cons]; omega
    by_cases e : (p.1 == d) = true
    · rw [if_pos e] at c; omega
    · rw [if_neg e] at c
      exact .tail (fun q => e (beq_iff_eq.mpr q)) (ih c)
theorem upd_of (D : Apart as rest) (P : Put d o o' l l') (hm : d ∈ as) (e1 : l.drop as.length = rest) (e2 : (l.take as.length).map (·.1) = as) : Upd d o o' l l' := P.upd (D.count hm e1 e2)
theorem updF_of (D : Apart as rest) (P : At d o l g) (hm : d ∈ as) (e1 : l.drop as.length = rest) (e2 : (l.take as.length).map (·.1) = as) : UpdF d o l g := P.updF (D.count hm e1 e2)
/-- a spot of a ledger, brought to its head -/
theorem UpdF.front {h₀ : Heap} {L : Addr} (U : PySem.W.UpdF d o l g) : ∃ r, (∀ h, News h₀ L h l → News h₀ L h ((d, o) :: r)) ∧ (∀ h pre o', News h₀ L h (pre ++ (d, o') :: r) → News h₀ L h (pre ++ g o')) ∧ Apart [d] r ∧ (∀ q, (∀ o', q ∈ g o') → q ∈ r) ∧ ∀ p ∈ l, p.1 = d ∨ p ∈ r := by
  obtain ⟨pre, post, rfl, hg, h1, h2⟩ := U.split
  refine ⟨pre ++ post, fun h N p hp => N p ?_, fun h pr o' N p hp => N p ?_, ⟨by simp, fun a ha p hp => ?_⟩, fun q hq => ?_, fun p hp => ?_⟩
  · simp only [List.mem_cons, List.mem_append] at hp ⊢
    rcases hp with rfl | hp | hp <;> simp [*]
  · rw [hg] at hp
    simp only [List.mem_cons, List.mem_append] at hp ⊢
    rcases hp with hp | hp | rfl | hp <;> simp [*]
  · obtain rfl : a = d := by simpa using ha
    rcases List.mem_append.mp hp with hp | hp
    · exact h1 p hp
    · exact h2 p hp
  · have z : ∃ o', q ≠ (d, o') := by
      by_cases e : q = (d, listOf #[] 0)
      · exact ⟨listOf #[] 1, fun e2 => by rw [e] at e2; cases e2⟩
      · exact ⟨_, e⟩
    obtain ⟨o', hne⟩ := z
    have := hq o'
    rw [hg] at this
    simp only [List.mem_cons, List.mem_append] at this ⊢
    rcases this with h | h | h
    · exact .inl h
    · exact absurd h hne
    · exact .inr h
  · simp only [List.mem_cons, List.mem_append] at hp ⊢
    rcases hp with hp | rfl | hp
    · exact .inr (.inl hp)
    · exact .inl rfl
    · exact .inr (.inr hp)
theorem News.subl {h₀ h : Heap} {L : Addr} (N : News h₀ L h l) (hs : l'.Sublist l) : News h₀ L h l' := fun p hp => N p (hs.subset hp)
/-- addresses that are new to a ledger -/
def NewA (bs : List Addr) (l : List (Addr × Obj)) : Prop := bs.Nodup ∧ ∀ a ∈ bs, ∀ p ∈ l, p.1 ≠ a
theorem Apart.sub {as' : List Addr} (D : Apart as rest) (h : as'.Sublist as) : Apart as' rest := ⟨D.1.sublist h, fun a ha => D.2 a (h.subset ha)⟩
theorem NewA.of {bs : List Addr} (D : Apart as rest) (h : (bs ++ [d]).Sublist as) (hl : ∀ p ∈ l, p.1 = d ∨ p ∈ rest) : NewA bs l := by
  have D' := D.sub h
  refine ⟨(List.nodup_append.mp D'.1).1, fun a ha p hp => ?_⟩
  rcases hl p hp with e | hp
  · rw [e]; exact fun q => (List.nodup_append.mp D'.1).2.2 a ha d (by simp) q.symm
  · exact D'.2 a (List.mem_append_left _ ha) p hp
theorem NewA.of0 {bs : List Addr} (D : Apart as rest) (h : bs.Sublist as) : NewA bs rest := ⟨D.1.sublist h, fun a ha => D.2 a (h.subset ha)⟩
theorem Apart.more {bs : List Addr} (D : Apart as rest) (hn : NewA bs l) (e1 : l.drop as.length = rest) (e2 : (l.take as.length).map (·.1) = as) : Apart (bs ++ as) rest := by
  have hl := split_at e1
  refine ⟨List.nodup_append.mpr ⟨hn.1, D.1, fun a ha b hb e => ?_⟩, fun a ha p hp => ?_⟩
  · subst e
    rw [← e2] at hb
    obtain ⟨p, hp, e⟩ := List.mem_map.mp hb
    exact hn.2 a ha p (List.mem_of_mem_take hp) e
  · rcases List.mem_append.mp ha with ha | ha
    · exact hn.2 a ha p (by rw [hl]; exact List.mem_append_right _ hp)
    · exact D.2 a ha p hp
end
theorem isListOf {h₀ h : Heap} {L a : Addr} {l : List (Addr × Obj)} {vs : List Value} {n : Nat} (N : News h₀ L h l) (hm : (a, listOf vs.toArray n) ∈ l) : h.IsList a vs.toArray := ⟨_, (N _ hm).1, rfl, n, rfl⟩
theorem item_any {prog : Program} {w : World} {A : Around} {E : Value → Shared → Prop} {s : Shared} {value slice : PySem.Expr} {l : Addr} {vs : List Value} {k : Int} {u : Tok} {Q : Value → Shared → Prop} (hl : s.heap.IsList l vs.toArray) (h0 : 0 ≤ k) (h1 : k < vs.length) (h9 : vs.length ≤ 9) (h : ∀ v ∈ vs, Q v s)
    (hs : subscripted slice false (.ref l) (.int k u) = operate [.ref l, .int k u] (getItem (.ref l) (.int k u)) := by with_unfolding_all rfl) :
    wpAny (model prog w) A (subscriptTail value slice (.ref l) (.int k u)) Q E s := by
  have hk : k.toNat < vs.length := by omega
  exact item_litK hl h0 (by omega) (List.getElem?_eq_getElem hk) (h _ (List.getElem_mem hk)) hs
theorem fm_lo (x : Int) {m : Int} (hm : 0 < m) : 0 ≤ x.fmod m := Int.fmod_nonneg_of_pos x hm
theorem fm_hi (x : Int) {m : Int} (hm : 0 < m) : x.fmod m < m := Int.fmod_lt_of_pos x hm
theorem mul_fm {prog : Program} {w : World} {A : Around} {E : Value → Shared → Prop} {s : Shared} {x b : Int} {t u : Tok} {Q : Value → Shared → Prop} (h : Q (.int (x.fmod 2147483647 * b) s.toks) { s with toks := s.toks + 1 }) :
    wpAny (model prog w) A (binaryOp .Mult (.int (x.fmod 2147483647) t) (.int b u)) Q E s :=
  mul_int h (IntMulOk.of_left (intBits_le_64 (by have := fm_lo x (m := 2147483647) (by decide); omega) (by have := fm_hi x (m := 2147483647) (by decide); omega)))
theorem mem_int4 {a b c d : Int} {ta tb tc td : Tok} {R : Value → Prop} (k : ∀ (x : Int) (t : Tok), (x = a ∨ x = b ∨ x = c ∨ x = d) → R (.int x t)) : ∀ v, v ∈ [.int a ta, .int b tb, .int c tc, .int d td] → R v := by
  intro v h
  simp only [List.mem_cons, List.not_mem_nil, or_false] at h
  rcases h with rfl | rfl | rfl | rfl <;> exact k _ _ (by simp)
theorem mem_int2 {a b : Int} {ta tb : Tok} {R : Value → Prop} (k : ∀ (x : Int) (t : Tok), (x = a ∨ x = b) → R (.int x t)) : ∀ v, v ∈ [.int a ta, .int b tb] → R v := by
  intro v h
  simp only [List.mem_cons, List.not_mem_nil, or_false] at h
  rcases h with rfl | rfl <;> exact k _ _ (by simp)
theorem mem_str3 {a b c : Str} {ta tb tc : Tok} {R : Value → Prop} (k : ∀ (x : Str) (t : Tok), (x = a ∨ x = b ∨ x = c) → R (.str x t)) : ∀ v, v ∈ [.str a ta, .str b tb, .str c tc] → R v := by
  intro v h
  simp only [List.mem_cons, List.not_mem_nil, or_false] at h
  rcases h with rfl | rfl | rfl <;> exact k _ _ (by simp)
theorem mem_str4 {a b c d : Str} {ta tb tc td : Tok} {R : Value → Prop} (k : ∀ (x : Str) (t : Tok), (x = a ∨ x = b ∨ x = c ∨ x = d) → R (.str x t)) : ∀ v, v ∈ [.str a ta, .str b tb, .str c tc, .str d td] → R v := by
  intro v h
  simp only [List.mem_cons, List.not_mem_nil, or_false] at h
  rcases h with rfl | rfl | rfl | rfl <;> exact k _ _ (by simp)
theorem mem_str5 {a b c d e : Str} {ta tb tc td te : Tok} {R : Value → Prop} (k : ∀ (x : Str) (t : Tok), (x = a ∨ x = b ∨ x = c ∨ x = d ∨ x = e) → R (.str x t)) : ∀ v, v ∈ [.str a ta, .str b tb, .str c tc, .str d td, .str e te] → R v := by
  intro v h
  simp only [List.mem_cons, List.not_mem_nil, or_false] at h
  rcases h with rfl | rfl | rfl | rfl | rfl <;> exact k _ _ (by simp)
abbrev srcO (a b : Int) (ta tb : Tok) (n : Nat) : Obj := listOf [.int a ta, .int b tb].toArray n
abbrev en (w : World) (name : String) (t : Tok) (v : Value) : DictEntry := { hash := PyData.keyHash w.params (Str.ofString name), key := .str (Str.ofString name) t, val := v }
abbrev timesE (w : World) (k1 k2 k3 k4 : Tok) (a : Int) (ta : Tok) (m : Int) (tm : Tok) (h : Int) (th : Tok) (d : Int) (td : Tok) : List DictEntry := [en w "age" k1 (.int a ta), en w "max_age" k2 (.int m tm), en w "hello" k3 (.int h th), en w "delay" k4 (.int d td)]
inductive Out (x : Addr × Obj) : List (Addr × Obj) → List (Addr × Obj) → Prop
  | head {r} : Out x (x :: r) r
  | tail {p r r'} : Out x r r' → Out x (p :: r) (p :: r')
theorem Out.sub {x : Addr × Obj} {l l' : List (Addr × Obj)} (h : Out x l l') : x ∈ l ∧ ∀ p ∈ l', p ∈ l := by
  induction h with
  | head => exact ⟨.head _, fun p h => .tail _ h⟩
  | tail _ ih => exact ⟨.tail _ ih.1, fun p h => by rcases List.mem_cons.mp h with rfl | h; exact .head _; exact .tail _ (ih.2 p h)⟩
theorem compEnd_ {h₀ : Heap} {L I C D : Addr} {m : Str → Option Value} {s₁ : Shared} {oI oC oD : Obj} {S : List (Addr × Obj) → Prop} {rest : Value → List (Addr × Obj) → Prop} {y : Value} {h' : Heap} {tk : Nat} {all a1 a2 news' : List (Addr × Obj)}
    (F : Fr h₀ L h' m) (N : News h₀ L h' all) (d1 : Out (I, oI) all a1) (d2 : Out (C, oC) a1 a2) (d3 : Out (D, oD) a2 news') (off : LCg.Off3 I C D news') (hS : S news') (r : rest y news') :
    LCg.CompEnd h₀ L m s₁ I oI C oC D oD S rest y { s₁ with heap := h', toks := tk } :=
  LCg.CompEnd.intro F N news' (fun p hp => by
    simp only [List.mem_cons] at hp
    rcases hp with rfl | rfl | rfl | hp
    · exact d1.sub.1
    · exact d1.sub.2 _ d2.sub.1
    · exact d1.sub.2 _ (d2.sub.2 _ d3.sub.1)
    · exact d1.sub.2 _ (d2.sub.2 _ (d3.sub.2 _ hp))) off hS r
theorem item_ls {prog : Program} {w : World} {A : Around} {E : Value → Shared → Prop} {s : Shared} {value slice : PySem.Expr} {l : Addr} {vs : List Value} {ns : List Int} {k : Int} {u : Tok} {Q : Value → Shared → Prop} (hi : IntsAre vs ns) (hl : s.heap.IsList l vs.toArray) (h0 : 0 ≤ k) (h1 : k < ns.length) (h9 : ns.length ≤ 9) (h : ∀ t, Q (.int (ns.getD k.toNat 0) t) s)
    (hs : subscripted slice false (.ref l) (.int k u) = operate [.ref l, .int k u] (getItem (.ref l) (.int k u)) := by with_unfolding_all rfl) :
    wpAny (model prog w) A (subscriptTail value slice (.ref l) (.int k u)) Q E s := by
  have hk : k.toNat < ns.length := by omega
  have hv : k.toNat < vs.length := by rw [hi.length]; exact hk
  obtain ⟨x, t, e, hx⟩ := IntsAre.at hi k.toNat _ (List.getElem?_eq_getElem hv)
  refine item_litK hl h0 (by omega) ((List.getElem?_eq_getElem hv).trans (congrArg some e)) ?_ hs
  have e2 : ns.getD k.toNat 0 = x := by rw [List.getD_eq_getElem?_getD, hx]; rfl
  rw [← e2]
  exact h t
inductive Split (rest : List (Addr × Obj)) : List (Addr × Obj) → List (Addr × Obj) → Prop
  | nil : Split rest rest []
  | cons {p l le} : Split rest l le → Split rest (p :: l) (p :: le)
theorem Split.eq {rest l le : List (Addr × Obj)} (h : Split rest l le) : l = le ++ rest := by
  induction h with
  | nil => rfl
  | cons _ ih => rw [ih, List.cons_append]
theorem rot {h₀ h : Heap} {L : Addr} {as bs : List Addr} {rest l ln le l2 E : List (Addr × Obj)} (D : Apart as rest) (hn : NewA (bs ++ l2.map (·.1)) l) (e1 : l.drop as.length = rest) (e2 : (l.take as.length).map (·.1) = as) (S : Split rest ln le) (N : News h₀ L h (E ++ (l2 ++ ln))) :
    Apart (bs ++ as) (l2 ++ rest) ∧ News h₀ L h (E ++ (le ++ (l2 ++ rest))) := by
  have hl := split_at e1
  refine ⟨⟨List.nodup_append.mpr ⟨(List.nodup_append.mp hn.1).1, D.1, fun a ha b hb e => ?_⟩, fun a ha p hp => ?_⟩, fun p hp => N p ?_⟩
  · subst e
    rw [← e2] at hb
    obtain ⟨p, hp, e⟩ := List.mem_map.mp hb
    exact hn.2 a (List.mem_append_left _ ha) p (List.mem_of_mem_take hp) e
  · rcases List.mem_append.mp ha with ha | ha
    · rcases List.mem_append.mp hp with hp | hp
      · exact fun e => (List.nodup_append.mp hn.1).2.2 a ha _ (List.mem_map.mpr ⟨p, hp, rfl⟩) e.symm
      · exact hn.2 a (List.mem_append_left _ ha) p (by rw [hl]; exact List.mem_append_right _ hp)
    · rcases List.mem_append.mp hp with hp | hp
      · intro e
        rw [← e2] at ha
        obtain ⟨q, hq, e3⟩ := List.mem_map.mp ha
        exact hn.2 p.1 (List.mem_append_right _ (List.mem_map.mpr ⟨p, hp, rfl⟩)) q (List.mem_of_mem_take hq) (e3.trans e.symm)
      · exact D.2 a ha p hp
  · rw [S.eq]
    simp only [List.mem_append] at hp ⊢
    rcases hp with hp | hp | hp | hp <;> simp [hp]
theorem News.nil_of {h₀ h : Heap} {L : Addr} : News h₀ L h [] := fun _ hp => nomatch hp
theorem News.cons_of {h₀ h : Heap} {L : Addr} {p : Addr × Obj} {l l' : List (Addr × Obj)} (N : News h₀ L h l) (hm : p ∈ l) (M : News h₀ L h l') : News h₀ L h (p :: l') := fun q hq => by
  rcases List.mem_cons.mp hq with rfl | hq
  · exact N _ hm
  · exact M _ hq
theorem News.app_of {h₀ h : Heap} {L : Addr} {l₁ l₂ : List (Addr × Obj)} (M : News h₀ L h l₁) (M' : News h₀ L h l₂) : News h₀ L h (l₁ ++ l₂) := fun q hq => (List.mem_append.mp hq).elim (M q) (M' q)
theorem NewA.of2 {as bs : List Addr} {d : Addr} {o : Obj} {l l2 ln rest : List (Addr × Obj)} (D : Apart as (l2 ++ rest)) (h : (bs ++ [d]).Sublist as) (hl : ∀ p ∈ l, p.1 = d ∨ p ∈ rest) (hn : NewA (l2.map (·.1)) ln) (h1 : (d, o) ∈ ln) (h2 : rest.Sublist ln) : NewA (bs ++ l2.map (·.1)) l := by
  have D' := D.sub h
  refine ⟨List.nodup_append.mpr ⟨(List.nodup_append.mp D'.1).1, hn.1, fun a ha b hb e => ?_⟩, fun a ha p hp => ?_⟩
  · obtain ⟨q, hq, e2⟩ := List.mem_map.mp hb
    exact D'.2 a (List.mem_append_left _ ha) q (List.mem_append_left _ hq) (e2.trans e.symm)
  · rcases List.mem_append.mp ha with ha | ha
    · rcases hl p hp with e | hp
      · rw [e]; exact fun q => (List.nodup_append.mp D'.1).2.2 a ha d (by simp) q.symm
      · exact D'.2 a (List.mem_append_left _ ha) p (List.mem_append_right _ hp)
    · rcases hl p hp with e | hp
      · rw [e]; exact hn.2 a ha _ h1
      · exact hn.2 a ha p (h2.subset hp)
/-- a field of an instance set, the tokens forgotten -/
theorem set_dictT {prog : Program} {w : World} {A : Around} {E : Value → Shared → Prop} {s : Shared} {K : Frag} {x C dx L : Addr} {h₀ : Heap} {m : Str → Option Value} {news : List (Addr × Obj)} {ox : Obj} {es : List DictEntry} {n : Nat} {name : Str} {v : Value} {Q : Unit → Shared → Prop} (F : Fr h₀ L s.heap m) (X₀ : K.In h₀) (N : News h₀ L s.heap news) (I : InstAt s.heap x ox C (some (dictOf es n))) (hd : ox.dict = some dx)
    (hs : findIn K (.ref C) "__setattr__" = some (some (.builtin "object.__setattr__"))) (hp : plainOver K C = true) (ht : takerIn K C name = some none) (hh : hasDictIn K C = true) (hl : (getL name es).isSome = true)
    (H : ∀ t : Tok, ∃ es' n' news', (putL name (PyData.keyHash w.params name) (.str name t) v es, putN name es n) = (es', n') ∧ Upd dx (dictOf es n) (dictOf es' n') news news' ∧ es'.length ≤ 1000 ∧
      ∀ h' tk', Fr h₀ L h' m → News h₀ L h' news' → Q () { s with heap := h', toks := tk' }) :
    wpAny (model prog w) A (setAttr (.ref x) name v) Q E s := by
  obtain ⟨es', n', news', e, U, hz, h⟩ := H (s.toks + 1)
  exact set_dict F X₀ N I hd hs hp ht hh hl e U hz fun h' F' N' => h h' _ F' N'
theorem ex3 {α β γ : Type} {P P2 P3 P4 : α → β → γ → Prop} {a : α} {b : β} {c : γ} (h : P a b c) (h2 : P2 a b c) (h3 : P3 a b c) (h4 : P4 a b c) : ∃ a b c, P a b c ∧ P2 a b c ∧ P3 a b c ∧ P4 a b c := ⟨a, b, c, h, h2, h3, h4⟩
/-- what a contract says when it leaves nothing open -/
inductive Is (V : Value) (M : List (Addr × Obj)) : Value → List (Addr × Obj) → Prop
  | mk : Is V M V M
theorem Is.ret {V : Value} {M : List (Addr × Obj)} {R : Value → List (Addr × Obj) → Prop} (k9 : R V M) : ∀ v l, Is V M v l → R v l := fun _ _ h9 => Is.rec (motive := fun v l _ => R v l) k9 h9
theorem Is.of {V v : Value} {M l : List (Addr × Obj)} (h : v = V) (h2 : l = M) : Is V M v l := by subst h; subst h2; exact .mk
theorem rot_use {h₀ h : Heap} {L : Addr} {as bs : List Addr} {rest l ln le l2 E : List (Addr × Obj)} {G : Prop} (D : Apart as rest) (hn : NewA (bs ++ l2.map (·.1)) l) (e1 : l.drop as.length = rest) (e2 : (l.take as.length).map (·.1) = as) (S : Split rest ln le) (N : News h₀ L h (E ++ (l2 ++ ln))) (k : Apart (bs ++ as) (l2 ++ rest) → News h₀ L h (E ++ (le ++ (l2 ++ rest))) → G) : G :=
  let ⟨a, b⟩ := rot D hn e1 e2 S N
  k a b

section
open PySem.Calls PySem.Spec PySem.SeqAt
open PySem.AutoSeq1 (wpAny_loadPart')
open PySem.MeetsSeq PySem.MeetsSeq2 PySem.MeetsSeq3 PySem.SeqRoads2
/-- two values in an order, as the model's comparison answers -/
def RcOp (op : CmpOp) (A : Around) (s : Shared) (x y : Value) (b : Bool) : Prop := ∀ (prog : Program) (w : World) (E Q : Value → Shared → Prop), Q (.bool b) s → wpAny (model prog w) A (richCompare op x y) Q E s
noncomputable def lexB (z : Bool) (e c : Nat → Bool) : List Nat → Bool
  | [] => z
  | j :: js => if e j then lexB z e c js else c j
theorem tup_ltAt (l b : Addr) (items items2 : Array Value) (n n2 : Nat) (dd dd2 : Option Addr) (sl sl2 : Array (Option Value)) (hsz : items.size = items2.size) (e c : Nat → Bool) :
    Meets (Builtin.«tuple.__lt__» ⟨[.ref l, .ref b], []⟩)
      (fun A R s => s.heap.get? l = some { cls := .type "tuple", dict := dd, data := .seq items n, slots := sl } ∧ s.heap.get? b = some { cls := .type "tuple", dict := dd2, data := .seq items2 n2, slots := sl2 } ∧
        (∀ j (h1 : j < items.size) (h2 : j < items2.size), EqAt A.in1 s items[j] items2[j] (e j)) ∧
        (∀ j (h1 : j < items.size) (h2 : j < items2.size), e j = false → RcOp .Lt A.in1 s items[j] items2[j] (c j)) ∧
        R (.ok (.ret (.bool (lexB false e c (List.range items.size))))) s) :=
  .of_wp fun prog w A R s h => by
    obtain ⟨hp, g, d, tk, os⟩ := s; obtain ⟨hl, hb, he, hc, h⟩ := h
    have f2 := AutoSeq1.sub_tuple_tuple
    have hZ : (items.toList.zip items2.toList).length = items.size := by simp [hsz]
    wp_walk using wpAny_loadPart' hl, wpAny_loadPart' hb, wpAny_forIn_list _ (fun rest b s' => b.1 = none ∧ s' = ⟨hp, g, d, tk, os⟩ ∧ ∃ i, rest = (items.toList.zip items2.toList).drop i ∧
      R (.ok (.ret (.bool (lexB false e c ((List.range items.size).drop i))))) ⟨hp, g, d, tk, os⟩) _
    case turn =>
      rintro ⟨y, x⟩ rest b s' ⟨hb', rfl, i, hz, hR⟩
      have hlt : i < (items.toList.zip items2.toList).length := by
        rcases Nat.lt_or_ge i (items.toList.zip items2.toList).length with h' | h'
        · exact h'
        · rw [List.drop_of_length_le h'] at hz; cases hz
      have h1 : i < items.size := hZ ▸ hlt
      have h2 : i < items2.size := hsz ▸ h1
      rw [List.drop_eq_getElem_cons hlt] at hz
      injection hz with hyx hrest
      have hy : y = items[i] := by have := congrArg Prod.fst hyx; simpa using this
      have hx : x = items2[i] := by have := congrArg Prod.snd hyx; simpa using this
      subst hy hx
      have hd : (List.range items.size).drop i = i :: (List.range items.size).drop (i + 1) := by simp [List.drop_eq_getElem_cons, h1]
      rw [hd] at hR
      simp only [lexB] at hR
      refine wpAny_bind (he i h1 h2 prog w _ _ ?_)
      cases hy : e i with
      | true =>
        rw [hy] at hR
        wp_walk
        exact ⟨rfl, rfl, i + 1, hrest, by simpa using hR⟩
      | false =>
        have hcc := hc i h1 h2 hy prog w
        rw [hy] at hR
        wp_walk using hcc
        simp only [Bool.false_eq_true, if_false] at hR
        refine ⟨.bool (c i), ?_⟩
        exact And.intro rfl hR
    case fin =>
      rintro ⟨b1, b2⟩ s' ⟨hb', rfl, i, hz, hR⟩
      simp only at hb'
      subst hb'
      have hge : items.size ≤ i := by
        rcases Nat.lt_or_ge i (items.toList.zip items2.toList).length with h' | h'
        · rw [List.drop_eq_getElem_cons h'] at hz; cases hz
        · exact hZ ▸ h'
      rw [List.drop_of_length_le (by simpa using hge)] at hR
      wp_walk
      exact ⟨_, rfl, by simpa [Builtin.Tuple.tupleCompareSizes, lexB, hsz] using hR⟩
    case h =>
      exact ⟨rfl, rfl, 0, rfl, by simpa using h⟩
theorem RcOp.tup_lt {A : Around} {s : Shared} {l b : Addr} {items items2 : Array Value} (e c : Nat → Bool) (hl : s.heap.IsTuple l items) (hb : s.heap.IsTuple b items2) (hsz : items.size = items2.size) (hu : A.units < cLine)
    (he : ∀ j (h1 : j < items.size) (h2 : j < items2.size), EqAt A.in1 s items[j] items2[j] (e j))
    (hc : ∀ j (h1 : j < items.size) (h2 : j < items2.size), e j = false → RcOp .Lt A.in1 s items[j] items2[j] (c j)) :
    RcOp .Lt A s (.ref l) (.ref b) (lexB false e c (List.range items.size)) := by
  intro prog w E Q h
  obtain ⟨⟨cls, dd, data, sl⟩, ho, hcl, n, hd⟩ := id hl
  obtain ⟨⟨cls2, dd2, data2, sl2⟩, ho2, hc2, n2, hd2⟩ := id hb
  simp only at hcl hd hc2 hd2
  subst hcl hd hc2 hd2
  exact richCompare_meets_room (op := .Lt) ⟨_, ho, rfl⟩ ⟨_, ho2, rfl⟩ F.slot_tuple_lt F.entry_tuple_lt (F.args_tuple_lt_2 _ _) (tup_ltAt l b items items2 n n2 dd dd2 sl sl2 hsz e c)
    ⟨ho, ho2, he, hc, show Value.bool (lexB false e c (List.range items.size)) ≠ Value.notImplemented ∧ Q (.bool (lexB false e c (List.range items.size))) s from ⟨(fun x => nomatch x), h⟩⟩ hu
theorem tup_leAt (l b : Addr) (items items2 : Array Value) (n n2 : Nat) (dd dd2 : Option Addr) (sl sl2 : Array (Option Value)) (hsz : items.size = items2.size) (e c : Nat → Bool) :
    Meets (Builtin.«tuple.__le__» ⟨[.ref l, .ref b], []⟩)
      (fun A R s => s.heap.get? l = some { cls := .type "tuple", dict := dd, data := .seq items n, slots := sl } ∧ s.heap.get? b = some { cls := .type "tuple", dict := dd2, data := .seq items2 n2, slots := sl2 } ∧
        (∀ j (h1 : j < items.size) (h2 : j < items2.size), EqAt A.in1 s items[j] items2[j] (e j)) ∧
        (∀ j (h1 : j < items.size) (h2 : j < items2.size), e j = false → RcOp .LtE A.in1 s items[j] items2[j] (c j)) ∧
        R (.ok (.ret (.bool (lexB true e c (List.range items.size))))) s) :=
  .of_wp fun prog w A R s h => by
    obtain ⟨hp, g, d, tk, os⟩ := s; obtain ⟨hl, hb, he, hc, h⟩ := h
    have f2 := AutoSeq1.sub_tuple_tuple
    have hZ : (items.toList.zip items2.toList).length = items.size := by simp [hsz]
    wp_walk using wpAny_loadPart' hl, wpAny_loadPart' hb, wpAny_forIn_list _ (fun rest b s' => b.1 = none ∧ s' = ⟨hp, g, d, tk, os⟩ ∧ ∃ i, rest = (items.toList.zip items2.toList).drop i ∧
      R (.ok (.ret (.bool (lexB true e c ((List.range items.size).drop i))))) ⟨hp, g, d, tk, os⟩) _
    case turn =>
      rintro ⟨y, x⟩ rest b s' ⟨hb', rfl, i, hz, hR⟩
      have hlt : i < (items.toList.zip items2.toList).length := by
        rcases Nat.lt_or_ge i (items.toList.zip items2.toList).length with h' | h'
        · exact h'
        · rw [List.drop_of_length_le h'] at hz; cases hz
      have h1 : i < items.size := hZ ▸ hlt
      have h2 : i < items2.size := hsz ▸ h1
      rw [List.drop_eq_getElem_cons hlt] at hz
      injection hz with hyx hrest
      have hy : y = items[i] := by have := congrArg Prod.fst hyx; simpa using this
      have hx : x = items2[i] := by have := congrArg Prod.snd hyx; simpa using this
      subst hy hx
      have hd : (List.range items.size).drop i = i :: (List.range items.size).drop (i + 1) := by simp [List.drop_eq_getElem_cons, h1]
      rw [hd] at hR
      simp only [lexB] at hR
      refine wpAny_bind (he i h1 h2 prog w _ _ ?_)
      cases hy : e i with
      | true =>
        rw [hy] at hR
        wp_walk
        exact ⟨rfl, rfl, i + 1, hrest, by simpa using hR⟩
      | false =>
        have hcc := hc i h1 h2 hy prog w
        rw [hy] at hR
        wp_walk using hcc
        simp only [Bool.false_eq_true, if_false] at hR
        refine ⟨.bool (c i), ?_⟩
        exact And.intro rfl hR
    case fin =>
      rintro ⟨b1, b2⟩ s' ⟨hb', rfl, i, hz, hR⟩
      simp only at hb'
      subst hb'
      have hge : items.size ≤ i := by
        rcases Nat.lt_or_ge i (items.toList.zip items2.toList).length with h' | h'
        · rw [List.drop_eq_getElem_cons h'] at hz; cases hz
        · exact hZ ▸ h'
      rw [List.drop_of_length_le (by simpa using hge)] at hR
      wp_walk
      exact ⟨_, rfl, by simpa [Builtin.Tuple.tupleCompareSizes, lexB, hsz] using hR⟩
    case h =>
      exact ⟨rfl, rfl, 0, rfl, by simpa using h⟩
theorem RcOp.tup_le {A : Around} {s : Shared} {l b : Addr} {items items2 : Array Value} (e c : Nat → Bool) (hl : s.heap.IsTuple l items) (hb : s.heap.IsTuple b items2) (hsz : items.size = items2.size) (hu : A.units < cLine)
    (he : ∀ j (h1 : j < items.size) (h2 : j < items2.size), EqAt A.in1 s items[j] items2[j] (e j))
    (hc : ∀ j (h1 : j < items.size) (h2 : j < items2.size), e j = false → RcOp .LtE A.in1 s items[j] items2[j] (c j)) :
    RcOp .LtE A s (.ref l) (.ref b) (lexB true e c (List.range items.size)) := by
  intro prog w E Q h
  obtain ⟨⟨cls, dd, data, sl⟩, ho, hcl, n, hd⟩ := id hl
  obtain ⟨⟨cls2, dd2, data2, sl2⟩, ho2, hc2, n2, hd2⟩ := id hb
  simp only at hcl hd hc2 hd2
  subst hcl hd hc2 hd2
  exact richCompare_meets_room (op := .LtE) ⟨_, ho, rfl⟩ ⟨_, ho2, rfl⟩ F.slot_tuple_le F.entry_tuple_le (F.args_tuple_le_2 _ _) (tup_leAt l b items items2 n n2 dd dd2 sl sl2 hsz e c)
    ⟨ho, ho2, he, hc, show Value.bool (lexB true e c (List.range items.size)) ≠ Value.notImplemented ∧ Q (.bool (lexB true e c (List.range items.size))) s from ⟨(fun x => nomatch x), h⟩⟩ hu
theorem tup_geAt (l b : Addr) (items items2 : Array Value) (n n2 : Nat) (dd dd2 : Option Addr) (sl sl2 : Array (Option Value)) (hsz : items.size = items2.size) (e c : Nat → Bool) :
    Meets (Builtin.«tuple.__ge__» ⟨[.ref l, .ref b], []⟩)
      (fun A R s => s.heap.get? l = some { cls := .type "tuple", dict := dd, data := .seq items n, slots := sl } ∧ s.heap.get? b = some { cls := .type "tuple", dict := dd2, data := .seq items2 n2, slots := sl2 } ∧
        (∀ j (h1 : j < items.size) (h2 : j < items2.size), EqAt A.in1 s items[j] items2[j] (e j)) ∧
        (∀ j (h1 : j < items.size) (h2 : j < items2.size), e j = false → RcOp .GtE A.in1 s items[j] items2[j] (c j)) ∧
        R (.ok (.ret (.bool (lexB true e c (List.range items.size))))) s) :=
  .of_wp fun prog w A R s h => by
    obtain ⟨hp, g, d, tk, os⟩ := s; obtain ⟨hl, hb, he, hc, h⟩ := h
    have f2 := AutoSeq1.sub_tuple_tuple
    have hZ : (items.toList.zip items2.toList).length = items.size := by simp [hsz]
    wp_walk using wpAny_loadPart' hl, wpAny_loadPart' hb, wpAny_forIn_list _ (fun rest b s' => b.1 = none ∧ s' = ⟨hp, g, d, tk, os⟩ ∧ ∃ i, rest = (items.toList.zip items2.toList).drop i ∧
      R (.ok (.ret (.bool (lexB true e c ((List.range items.size).drop i))))) ⟨hp, g, d, tk, os⟩) _
    case turn =>
      rintro ⟨y, x⟩ rest b s' ⟨hb', rfl, i, hz, hR⟩
      have hlt : i < (items.toList.zip items2.toList).length := by
        rcases Nat.lt_or_ge i (items.toList.zip items2.toList).length with h' | h'
        · exact h'
        · rw [List.drop_of_length_le h'] at hz; cases hz
      have h1 : i < items.size := hZ ▸ hlt
      have h2 : i < items2.size := hsz ▸ h1
      rw [List.drop_eq_getElem_cons hlt] at hz
      injection hz with hyx hrest
      have hy : y = items[i] := by have := congrArg Prod.fst hyx; simpa using this
      have hx : x = items2[i] := by have := congrArg Prod.snd hyx; simpa using this
      subst hy hx
      have hd : (List.range items.size).drop i = i :: (List.range items.size).drop (i + 1) := by simp [List.drop_eq_getElem_cons, h1]
      rw [hd] at hR
      simp only [lexB] at hR
      refine wpAny_bind (he i h1 h2 prog w _ _ ?_)
      cases hy : e i with
      | true =>
        rw [hy] at hR
        wp_walk
        exact ⟨rfl, rfl, i + 1, hrest, by simpa using hR⟩
      | false =>
        have hcc := hc i h1 h2 hy prog w
        rw [hy] at hR
        wp_walk using hcc
        simp only [Bool.false_eq_true, if_false] at hR
        refine ⟨.bool (c i), ?_⟩
        exact And.intro rfl hR
    case fin =>
      rintro ⟨b1, b2⟩ s' ⟨hb', rfl, i, hz, hR⟩
      simp only at hb'
      subst hb'
      have hge : items.size ≤ i := by
        rcases Nat.lt_or_ge i (items.toList.zip items2.toList).length with h' | h'
        · rw [List.drop_eq_getElem_cons h'] at hz; cases hz
        · exact hZ ▸ h'
      rw [List.drop_of_length_le (by simpa using hge)] at hR
      wp_walk
      exact ⟨_, rfl, by simpa [Builtin.Tuple.tupleCompareSizes, lexB, hsz] using hR⟩
    case h =>
      exact ⟨rfl, rfl, 0, rfl, by simpa using h⟩
theorem RcOp.tup_ge {A : Around} {s : Shared} {l b : Addr} {items items2 : Array Value} (e c : Nat → Bool) (hl : s.heap.IsTuple l items) (hb : s.heap.IsTuple b items2) (hsz : items.size = items2.size) (hu : A.units < cLine)
    (he : ∀ j (h1 : j < items.size) (h2 : j < items2.size), EqAt A.in1 s items[j] items2[j] (e j))
    (hc : ∀ j (h1 : j < items.size) (h2 : j < items2.size), e j = false → RcOp .GtE A.in1 s items[j] items2[j] (c j)) :
    RcOp .GtE A s (.ref l) (.ref b) (lexB true e c (List.range items.size)) := by
  intro prog w E Q h
  obtain ⟨⟨cls, dd, data, sl⟩, ho, hcl, n, hd⟩ := id hl
  obtain ⟨⟨cls2, dd2, data2, sl2⟩, ho2, hc2, n2, hd2⟩ := id hb
  simp only at hcl hd hc2 hd2
  subst hcl hd hc2 hd2
  exact richCompare_meets_room (op := .GtE) ⟨_, ho, rfl⟩ ⟨_, ho2, rfl⟩ F.slot_tuple_ge F.entry_tuple_ge (F.args_tuple_ge_2 _ _) (tup_geAt l b items items2 n n2 dd dd2 sl sl2 hsz e c)
    ⟨ho, ho2, he, hc, show Value.bool (lexB true e c (List.range items.size)) ≠ Value.notImplemented ∧ Q (.bool (lexB true e c (List.range items.size))) s from ⟨(fun x => nomatch x), h⟩⟩ hu

structure Vec where
  (r0 r1 c b0 b1 p0 p1 : Int)
abbrev tupO (vs : List Value) : Obj := { cls := .type "tuple", data := .seq vs.toArray }
inductive IsVec (l : List (Addr × Obj)) (a : Addr) (X : Vec) : Prop
  | mk (ar ab ap : Addr) (tc tr0 tr1 tb0 tb1 tp0 tp1 : Tok) (h1 : (a, tupO [.ref ar, .int X.c tc, .ref ab, .ref ap]) ∈ l) (h2 : (ap, tupO [.int X.p0 tp0, .int X.p1 tp1]) ∈ l) (h3 : (ab, tupO [.int X.b0 tb0, .int X.b1 tb1]) ∈ l) (h4 : (ar, tupO [.int X.r0 tr0, .int X.r1 tr1]) ∈ l)
theorem IsVec.more {l l' : List (Addr × Obj)} {a : Addr} {X : Vec} (h : IsVec l a X) (hs : ∀ p ∈ l, p ∈ l') : IsVec l' a X := by
  obtain ⟨ar, ab, ap, tc, tr0, tr1, tb0, tb1, tp0, tp1, h1, h2, h3, h4⟩ := h
  exact ⟨ar, ab, ap, tc, tr0, tr1, tb0, tb1, tp0, tp1, hs _ h1, hs _ h2, hs _ h3, hs _ h4⟩
noncomputable def lexL : List Int → List Int → Bool
  | a :: as, b :: bs => if a = b then lexL as bs else decide (a < b)
  | _, _ => false
noncomputable def Vec.ls (X : Vec) : List Int := [X.r0, X.r1, X.c, X.b0, X.b1, X.p0, X.p1]
noncomputable def vlt (X Y : Vec) : Bool := lexL X.ls Y.ls
noncomputable def veq (X Y : Vec) : Bool := decide (X.ls = Y.ls)
noncomputable def lexZ (z : Bool) (f : Int → Int → Bool) : List Int → List Int → Bool
  | a :: as, b :: bs => if a = b then lexZ z f as bs else f a b
  | _, _ => z
theorem pstep {z : Bool} {f : Int → Int → Bool} {R : Bool} {a0 a1 b0 b1 : Int} : (if decide (a0 = b0 ∧ a1 = b1) = true then R else (if (a0 == b0) = true then (if (a1 == b1) = true then z else f a1 b1) else f a0 b0)) = (if a0 = b0 then (if a1 = b1 then R else f a1 b1) else f a0 b0) := by
  by_cases h0 : a0 = b0 <;> by_cases h1 : a1 = b1 <;> simp [h0, h1]
theorem istep {R S : Bool} {a b : Int} : (if (a == b) = true then R else S) = (if a = b then R else S) := by
  by_cases h : a = b <;> simp [h]
theorem vgen (z : Bool) (f : Int → Int → Bool) (X Y : Vec) :
    (if decide (X.r0 = Y.r0 ∧ X.r1 = Y.r1) = true then (if (X.c == Y.c) = true then (if decide (X.b0 = Y.b0 ∧ X.b1 = Y.b1) = true then (if decide (X.p0 = Y.p0 ∧ X.p1 = Y.p1) = true then z else (if (X.p0 == Y.p0) = true then (if (X.p1 == Y.p1) = true then z else f X.p1 Y.p1) else f X.p0 Y.p0)) else (if (X.b0 == Y.b0) = true then (if (X.b1 == Y.b1) = true then z else f X.b1 Y.b1) else f X.b0 Y.b0)) else f X.c Y.c) else (if (X.r0 == Y.r0) = true then (if (X.r1 == Y.r1) = true then z else f X.r1 Y.r1) else f X.r0 Y.r0)) = lexZ z f X.ls Y.ls := by
  rw [pstep, pstep, pstep, istep]
  rfl
theorem lexZ_lt : ∀ as bs : List Int, lexZ false (fun a b => decide (a < b)) as bs = lexL as bs
  | [], bs => by cases bs <;> rfl
  | a :: as, [] => rfl
  | a :: as, b :: bs => by
    show (if a = b then _ else _) = (if a = b then _ else _)
    rw [lexZ_lt as bs]
theorem lexZ_le : ∀ as bs : List Int, lexZ true (fun a b => decide (a ≤ b)) as bs = !(lexL bs as)
  | [], bs => by cases bs <;> rfl
  | a :: as, [] => rfl
  | a :: as, b :: bs => by
    show (if a = b then _ else _) = !(if b = a then _ else _)
    by_cases h : a = b
    · rw [if_pos h, if_pos h.symm, lexZ_le as bs]
    · rw [if_neg h, if_neg fun e => h e.symm, ← decide_not]
      exact decide_eq_decide.mpr Int.not_lt.symm
theorem lexZ_ge : ∀ as bs : List Int, lexZ true (fun a b => decide (b ≤ a)) as bs = !(lexL as bs)
  | [], bs => by cases bs <;> rfl
  | a :: as, [] => rfl
  | a :: as, b :: bs => by
    show (if a = b then _ else _) = !(if a = b then _ else _)
    by_cases h : a = b
    · rw [if_pos h, if_pos h, lexZ_ge as bs]
    · rw [if_neg h, if_neg h, ← decide_not]
      exact decide_eq_decide.mpr Int.not_lt.symm
section
variable {A : Around} {s : Shared} {h₀ : Heap} {L : Addr} {l : List (Addr × Obj)}
theorem tup_of (N : News h₀ L s.heap l) {a : Addr} {vs : List Value} (h : (a, tupO vs) ∈ l) : s.heap.IsTuple a vs.toArray := ⟨_, (N _ h).1, rfl, 0, rfl⟩
theorem tup_inj (N : News h₀ L s.heap l) {a : Addr} {vs vs' : List Value} (h : (a, tupO vs) ∈ l) (h' : (a, tupO vs') ∈ l) : vs = vs' := by
  have e := (N _ h).1.symm.trans (N _ h').1
  injection e with e
  injection e with _ _ e
  injection e with e _
  simpa using e
noncomputable def pe (a0 a1 b0 b1 : Int) : Nat → Bool
  | 0 => a0 == b0
  | _ => a1 == b1
theorem eqAt_pair (N : News h₀ L s.heap l) {a b : Addr} {a0 a1 b0 b1 : Int} {t0 t1 u0 u1 : Tok} (ha : (a, tupO [.int a0 t0, .int a1 t1]) ∈ l) (hb : (b, tupO [.int b0 u0, .int b1 u1]) ∈ l) (hu : A.units < cLine) :
    EqAt A s (.ref a) (.ref b) (decide (a0 = b0 ∧ a1 = b1)) := by
  by_cases e : a = b
  · subst e
    have := tup_inj N ha hb
    simp only [List.cons.injEq, Value.int.injEq] at this
    rw [decide_eq_true ⟨this.1.1, this.2.1.1⟩]
    exact EqAt.same _
  · refine EqAt.of_refs e ?_
    have := RcAt.tuples (A := A) (s := s) (e := pe a0 a1 b0 b1) (tup_of N ha) (tup_of N hb) hu ?_
    · have hh : ((List.range (min [Value.int a0 t0, Value.int a1 t1].toArray.size [Value.int b0 u0, Value.int b1 u1].toArray.size)).all (pe a0 a1 b0 b1) && [Value.int a0 t0, Value.int a1 t1].toArray.size == [Value.int b0 u0, Value.int b1 u1].toArray.size) = decide (a0 = b0 ∧ a1 = b1) := by
        show (List.all [0, 1] (pe a0 a1 b0 b1) && true) = _
        simp only [List.all_cons, List.all_nil, pe, Bool.and_true]
        rw [Bool.eq_iff_iff]
        simp
      rw [hh] at this
      exact this
    · intro j h1 h2
      match j, h1 with
      | 0, _ => exact EqAt.int_int _ _ _ _
      | 1, _ => exact EqAt.int_int _ _ _ _
theorem rc_lt_int {a b : Int} {t u : Tok} : RcOp .Lt A s (.int a t) (.int b u) (decide (a < b)) := fun prog w E Q h => wpAny_lt_int h
theorem rc_le_int {a b : Int} {t u : Tok} : RcOp .LtE A s (.int a t) (.int b u) (decide (a ≤ b)) := fun prog w E Q h => le_int h
theorem rc_ge_int {a b : Int} {t u : Tok} : RcOp .GtE A s (.int a t) (.int b u) (decide (b ≤ a)) := fun prog w E Q h => ge_int h
noncomputable def ve (X Y : Vec) : Nat → Bool
  | 0 => decide (X.r0 = Y.r0 ∧ X.r1 = Y.r1)
  | 1 => X.c == Y.c
  | 2 => decide (X.b0 = Y.b0 ∧ X.b1 = Y.b1)
  | _ => decide (X.p0 = Y.p0 ∧ X.p1 = Y.p1)
noncomputable def pc_lt (a0 a1 b0 b1 : Int) : Nat → Bool
  | 0 => decide (a0 < b0)
  | _ => decide (a1 < b1)
theorem rc_lt_pair (N : News h₀ L s.heap l) {a b : Addr} {a0 a1 b0 b1 : Int} {t0 t1 u0 u1 : Tok} (ha : (a, tupO [.int a0 t0, .int a1 t1]) ∈ l) (hb : (b, tupO [.int b0 u0, .int b1 u1]) ∈ l) (hu : A.units < cLine) :
    RcOp .Lt A s (.ref a) (.ref b) (lexB false (pe a0 a1 b0 b1) (pc_lt a0 a1 b0 b1) [0, 1]) := by
  refine RcOp.tup_lt (A := A) (s := s) (pe a0 a1 b0 b1) (pc_lt a0 a1 b0 b1) (tup_of N ha) (tup_of N hb) rfl hu ?_ ?_
  · intro j h1 h2
    match j, h1 with
    | 0, _ => exact EqAt.int_int _ _ _ _
    | 1, _ => exact EqAt.int_int _ _ _ _
  · intro j h1 h2 _
    match j, h1 with
    | 0, _ => exact rc_lt_int
    | 1, _ => exact rc_lt_int
noncomputable def vc_lt (X Y : Vec) : Nat → Bool
  | 0 => lexB false (pe X.r0 X.r1 Y.r0 Y.r1) (pc_lt X.r0 X.r1 Y.r0 Y.r1) [0, 1]
  | 1 => decide (X.c < Y.c)
  | 2 => lexB false (pe X.b0 X.b1 Y.b0 Y.b1) (pc_lt X.b0 X.b1 Y.b0 Y.b1) [0, 1]
  | _ => lexB false (pe X.p0 X.p1 Y.p0 Y.p1) (pc_lt X.p0 X.p1 Y.p0 Y.p1) [0, 1]
theorem vc_lt_is (X Y : Vec) : lexB false (ve X Y) (vc_lt X Y) [0, 1, 2, 3] = (vlt X Y) :=
  (vgen false (fun a b => decide (a < b)) X Y).trans (lexZ_lt X.ls Y.ls)
theorem vec_lt {prog : Program} {w : World} {E Q : Value → Shared → Prop} (N : News h₀ L s.heap l) {a b : Addr} {X Y : Vec} (hx : IsVec l a X) (hy : IsVec l b Y) (hu : A.units + 8 < cLine) (h : Q (.bool (vlt X Y)) s) :
    wpAny (model prog w) A (compareOp .Lt (.ref a) (.ref b)) Q E s := by
  obtain ⟨ar, ab, ap, tc, tr0, tr1, tb0, tb1, tp0, tp1, h1, h2, h3, h4⟩ := hx
  obtain ⟨ar', ab', ap', tc', tr0', tr1', tb0', tb1', tp0', tp1', h1', h2', h3', h4'⟩ := hy
  show wpAny _ _ (richCompare .Lt (.ref a) (.ref b)) Q E s
  have hu1 : A.in1.units < cLine := by have := units_in1 A; omega
  rw [← vc_lt_is] at h
  refine RcOp.tup_lt (A := A) (s := s) (ve X Y) (vc_lt X Y) (tup_of N h1) (tup_of N h1') rfl (by omega) ?_ ?_ prog w E Q h
  · intro j k1 k2
    match j, k1 with
    | 0, _ => exact eqAt_pair N h4 h4' hu1
    | 1, _ => exact EqAt.int_int _ _ _ _
    | 2, _ => exact eqAt_pair N h3 h3' hu1
    | 3, _ => exact eqAt_pair N h2 h2' hu1
  · intro j k1 k2 _
    match j, k1 with
    | 0, _ => exact rc_lt_pair N h4 h4' hu1
    | 1, _ => exact rc_lt_int
    | 2, _ => exact rc_lt_pair N h3 h3' hu1
    | 3, _ => exact rc_lt_pair N h2 h2' hu1
noncomputable def pc_le (a0 a1 b0 b1 : Int) : Nat → Bool
  | 0 => decide (a0 ≤ b0)
  | _ => decide (a1 ≤ b1)
theorem rc_le_pair (N : News h₀ L s.heap l) {a b : Addr} {a0 a1 b0 b1 : Int} {t0 t1 u0 u1 : Tok} (ha : (a, tupO [.int a0 t0, .int a1 t1]) ∈ l) (hb : (b, tupO [.int b0 u0, .int b1 u1]) ∈ l) (hu : A.units < cLine) :
    RcOp .LtE A s (.ref a) (.ref b) (lexB true (pe a0 a1 b0 b1) (pc_le a0 a1 b0 b1) [0, 1]) := by
  refine RcOp.tup_le (A := A) (s := s) (pe a0 a1 b0 b1) (pc_le a0 a1 b0 b1) (tup_of N ha) (tup_of N hb) rfl hu ?_ ?_
  · intro j h1 h2
    match j, h1 with
    | 0, _ => exact EqAt.int_int _ _ _ _
    | 1, _ => exact EqAt.int_int _ _ _ _
  · intro j h1 h2 _
    match j, h1 with
    | 0, _ => exact rc_le_int
    | 1, _ => exact rc_le_int
noncomputable def vc_le (X Y : Vec) : Nat → Bool
  | 0 => lexB true (pe X.r0 X.r1 Y.r0 Y.r1) (pc_le X.r0 X.r1 Y.r0 Y.r1) [0, 1]
  | 1 => decide (X.c ≤ Y.c)
  | 2 => lexB true (pe X.b0 X.b1 Y.b0 Y.b1) (pc_le X.b0 X.b1 Y.b0 Y.b1) [0, 1]
  | _ => lexB true (pe X.p0 X.p1 Y.p0 Y.p1) (pc_le X.p0 X.p1 Y.p0 Y.p1) [0, 1]
theorem vc_le_is (X Y : Vec) : lexB true (ve X Y) (vc_le X Y) [0, 1, 2, 3] = (!(vlt Y X)) :=
  (vgen true (fun a b => decide (a ≤ b)) X Y).trans (lexZ_le X.ls Y.ls)
theorem vec_le {prog : Program} {w : World} {E Q : Value → Shared → Prop} (N : News h₀ L s.heap l) {a b : Addr} {X Y : Vec} (hx : IsVec l a X) (hy : IsVec l b Y) (hu : A.units + 8 < cLine) (h : Q (.bool (!(vlt Y X))) s) :
    wpAny (model prog w) A (compareOp .LtE (.ref a) (.ref b)) Q E s := by
  obtain ⟨ar, ab, ap, tc, tr0, tr1, tb0, tb1, tp0, tp1, h1, h2, h3, h4⟩ := hx
  obtain ⟨ar', ab', ap', tc', tr0', tr1', tb0', tb1', tp0', tp1', h1', h2', h3', h4'⟩ := hy
  show wpAny _ _ (richCompare .LtE (.ref a) (.ref b)) Q E s
  have hu1 : A.in1.units < cLine := by have := units_in1 A; omega
  rw [← vc_le_is] at h
  refine RcOp.tup_le (A := A) (s := s) (ve X Y) (vc_le X Y) (tup_of N h1) (tup_of N h1') rfl (by omega) ?_ ?_ prog w E Q h
  · intro j k1 k2
    match j, k1 with
    | 0, _ => exact eqAt_pair N h4 h4' hu1
    | 1, _ => exact EqAt.int_int _ _ _ _
    | 2, _ => exact eqAt_pair N h3 h3' hu1
    | 3, _ => exact eqAt_pair N h2 h2' hu1
  · intro j k1 k2 _
    match j, k1 with
    | 0, _ => exact rc_le_pair N h4 h4' hu1
    | 1, _ => exact rc_le_int
    | 2, _ => exact rc_le_pair N h3 h3' hu1
    | 3, _ => exact rc_le_pair N h2 h2' hu1
noncomputable def pc_ge (a0 a1 b0 b1 : Int) : Nat → Bool
  | 0 => decide (b0 ≤ a0)
  | _ => decide (b1 ≤ a1)
theorem rc_ge_pair (N : News h₀ L s.heap l) {a b : Addr} {a0 a1 b0 b1 : Int} {t0 t1 u0 u1 : Tok} (ha : (a, tupO [.int a0 t0, .int a1 t1]) ∈ l) (hb : (b, tupO [.int b0 u0, .int b1 u1]) ∈ l) (hu : A.units < cLine) :
    RcOp .GtE A s (.ref a) (.ref b) (lexB true (pe a0 a1 b0 b1) (pc_ge a0 a1 b0 b1) [0, 1]) := by
  refine RcOp.tup_ge (A := A) (s := s) (pe a0 a1 b0 b1) (pc_ge a0 a1 b0 b1) (tup_of N ha) (tup_of N hb) rfl hu ?_ ?_
  · intro j h1 h2
    match j, h1 with
    | 0, _ => exact EqAt.int_int _ _ _ _
    | 1, _ => exact EqAt.int_int _ _ _ _
  · intro j h1 h2 _
    match j, h1 with
    | 0, _ => exact rc_ge_int
    | 1, _ => exact rc_ge_int
noncomputable def vc_ge (X Y : Vec) : Nat → Bool
  | 0 => lexB true (pe X.r0 X.r1 Y.r0 Y.r1) (pc_ge X.r0 X.r1 Y.r0 Y.r1) [0, 1]
  | 1 => decide (Y.c ≤ X.c)
  | 2 => lexB true (pe X.b0 X.b1 Y.b0 Y.b1) (pc_ge X.b0 X.b1 Y.b0 Y.b1) [0, 1]
  | _ => lexB true (pe X.p0 X.p1 Y.p0 Y.p1) (pc_ge X.p0 X.p1 Y.p0 Y.p1) [0, 1]
theorem vc_ge_is (X Y : Vec) : lexB true (ve X Y) (vc_ge X Y) [0, 1, 2, 3] = (!(vlt X Y)) :=
  (vgen true (fun a b => decide (b ≤ a)) X Y).trans (lexZ_ge X.ls Y.ls)
theorem vec_ge {prog : Program} {w : World} {E Q : Value → Shared → Prop} (N : News h₀ L s.heap l) {a b : Addr} {X Y : Vec} (hx : IsVec l a X) (hy : IsVec l b Y) (hu : A.units + 8 < cLine) (h : Q (.bool (!(vlt X Y))) s) :
    wpAny (model prog w) A (compareOp .GtE (.ref a) (.ref b)) Q E s := by
  obtain ⟨ar, ab, ap, tc, tr0, tr1, tb0, tb1, tp0, tp1, h1, h2, h3, h4⟩ := hx
  obtain ⟨ar', ab', ap', tc', tr0', tr1', tb0', tb1', tp0', tp1', h1', h2', h3', h4'⟩ := hy
  show wpAny _ _ (richCompare .GtE (.ref a) (.ref b)) Q E s
  have hu1 : A.in1.units < cLine := by have := units_in1 A; omega
  rw [← vc_ge_is] at h
  refine RcOp.tup_ge (A := A) (s := s) (ve X Y) (vc_ge X Y) (tup_of N h1) (tup_of N h1') rfl (by omega) ?_ ?_ prog w E Q h
  · intro j k1 k2
    match j, k1 with
    | 0, _ => exact eqAt_pair N h4 h4' hu1
    | 1, _ => exact EqAt.int_int _ _ _ _
    | 2, _ => exact eqAt_pair N h3 h3' hu1
    | 3, _ => exact eqAt_pair N h2 h2' hu1
  · intro j k1 k2 _
    match j, k1 with
    | 0, _ => exact rc_ge_pair N h4 h4' hu1
    | 1, _ => exact rc_ge_int
    | 2, _ => exact rc_ge_pair N h3 h3' hu1
    | 3, _ => exact rc_ge_pair N h2 h2' hu1
end
end

section
set_option linter.unusedVariables false
noncomputable def portE (w : World) (k : Nat → Tok) (u : Nat → Value) (ra ta ca : Addr) (told inf vec tim pg pp ag ad rs sel dis : Value) : List DictEntry := [en w "row" (k 0) (.ref ra), en w "timers" (k 1) (.ref ta), en w "change" (k 2) (.ref ca), en w "is_enabled" (k 3) (u 3), en w "is_edge" (k 4) (u 4), en w "told" (k 5) told, en w "info" (k 6) inf, en w "vector" (k 7) vec, en w "times" (k 8) tim, en w "own_vector" (k 9) (u 9), en w "own_times" (k 10) (u 10), en w "role" (k 11) (u 11), en w "chosen" (k 12) (u 12), en w "selected" (k 13) sel, en w "reselect" (k 14) rs, en w "update" (k 15) (u 15), en w "proposing" (k 16) pg, en w "proposed" (k 17) pp, en w "agree" (k 18) ag, en w "agreed" (k 19) ad, en w "disputed" (k 20) dis, en w "sync" (k 21) (u 21), en w "synced" (k 22) (u 22), en w "re_root" (k 23) (u 23), en w "learn" (k 24) (u 24), en w "forward" (k 25) (u 25), en w "learning" (k 26) (u 26), en w "forwarding" (k 27) (u 27), en w "is_new" (k 28) (u 28), en w "is_rapid" (k 29) (u 29), en w "migration" (k 30) (u 30), en w "heard_old" (k 31) (u 31), en w "heard_rapid" (k 32) (u 32)]
noncomputable def timersE (w : World) (k : Nat → Tok) (u : Nat → Value) (inf : Value) : List DictEntry := [en w "forward" (k 0) (u 0), en w "hello" (k 1) (u 1), en w "migrate" (k 2) (u 2), en w "backup" (k 3) (u 3), en w "info" (k 4) inf, en w "root" (k 5) (u 5), en w "change" (k 6) (u 6), en w "sent" (k 7) (u 7)]
noncomputable def changeE (w : World) (k : Nat → Tok) (u : Nat → Value) (hea ack noti : Value) : List DictEntry := [en w "state" (k 0) (u 0), en w "is_heard" (k 1) hea, en w "is_acknowledged" (k 2) ack, en w "is_noticed" (k 3) noti, en w "is_spread" (k 4) (u 4), en w "owes_ack" (k 5) (u 5)]
noncomputable def rowE (w : World) (k : Nat → Tok) (u : Nat → Value) (st : Value) : List DictEntry := [en w "number" (k 0) (u 0), en w "priority" (k 1) (u 1), en w "cost" (k 2) (u 2), en w "is_edge" (k 3) (.bool false), en w "is_straight" (k 4) st]
noncomputable def bpduE (w : World) (k : Nat → Tok) (u : Nat → Value) (kin vec tim chg cack pro agr rol lea : Value) : List DictEntry := [en w "version" (k 0) (u 0), en w "kind" (k 1) kin, en w "vector" (k 2) vec, en w "times" (k 3) tim, en w "is_change" (k 4) chg, en w "is_change_ack" (k 5) cack, en w "is_proposal" (k 6) pro, en w "is_agreement" (k 7) agr, en w "role" (k 8) rol, en w "is_learning" (k 9) lea, en w "is_forwarding" (k 10) (u 10), en w "tail" (k 11) (u 11)]
inductive TimersP (w : World) (l : List (Addr × Obj)) : Value → List (Addr × Obj) → Prop
  | mk (a d : Addr) (k : Nat → Tok) (u : Nat → Value) (tk : Tok) (hn : NewA [a, d] l) : TimersP w l (.ref a) ((a, instObj 237 d) :: (d, dictOf (timersE w k u (.int 0 tk)) 8) :: l)
theorem TimersP.ret {w : World} {l : List (Addr × Obj)} {R : Value → List (Addr × Obj) → Prop} (k9 : ∀ (a d : Addr) (k : Nat → Tok) (u : Nat → Value) (tk : Tok) (hn : NewA [a, d] l), R (.ref a) ((a, instObj 237 d) :: (d, dictOf (timersE w k u (.int 0 tk)) 8) :: l)) : ∀ v9 l9, TimersP w l v9 l9 → R v9 l9 := fun _ _ h9 => TimersP.rec (motive := fun v9 l9 _ => R v9 l9) k9 h9
theorem TimersP.intro {w : World} {t0 t1 t2 t3 t4 t5 t6 t7 : Tok} {u0 u1 u2 u3 u5 u6 u7 : Value} {tk : Tok} {l : List (Addr × Obj)} {a d : Addr} (hn : NewA [a, d] l) : TimersP w l (.ref a) ((a, instObj 237 d) :: (d, dictOf [en w "forward" t0 u0, en w "hello" t1 u1, en w "migrate" t2 u2, en w "backup" t3 u3, en w "info" t4 (.int 0 tk), en w "root" t5 u5, en w "change" t6 u6, en w "sent" t7 u7] 8) :: l) :=
  .mk a d (fun i => [t0, t1, t2, t3, t4, t5, t6, t7].getD i 0) (fun i => [u0, u1, u2, u3, .none, u5, u6, u7].getD i .none) tk hn
inductive ChangeP (w : World) (l : List (Addr × Obj)) : Value → List (Addr × Obj) → Prop
  | mk (a d : Addr) (k : Nat → Tok) (u : Nat → Value) (hn : NewA [a, d] l) : ChangeP w l (.ref a) ((a, instObj 272 d) :: (d, dictOf (changeE w k u (.bool false) (.bool false) (.bool false)) 6) :: l)
theorem ChangeP.ret {w : World} {l : List (Addr × Obj)} {R : Value → List (Addr × Obj) → Prop} (k9 : ∀ (a d : Addr) (k : Nat → Tok) (u : Nat → Value) (hn : NewA [a, d] l), R (.ref a) ((a, instObj 272 d) :: (d, dictOf (changeE w k u (.bool false) (.bool false) (.bool false)) 6) :: l)) : ∀ v9 l9, ChangeP w l v9 l9 → R v9 l9 := fun _ _ h9 => ChangeP.rec (motive := fun v9 l9 _ => R v9 l9) k9 h9
theorem ChangeP.intro {w : World} {t0 t1 t2 t3 t4 t5 : Tok} {u0 u4 u5 : Value} {l : List (Addr × Obj)} {a d : Addr} (hn : NewA [a, d] l) : ChangeP w l (.ref a) ((a, instObj 272 d) :: (d, dictOf [en w "state" t0 u0, en w "is_heard" t1 (.bool false), en w "is_acknowledged" t2 (.bool false), en w "is_noticed" t3 (.bool false), en w "is_spread" t4 u4, en w "owes_ack" t5 u5] 6) :: l) :=
  .mk a d (fun i => [t0, t1, t2, t3, t4, t5].getD i 0) (fun i => [u0, .none, .none, .none, u4, u5].getD i .none) hn
inductive RowP (w : World) (l : List (Addr × Obj)) (st : Value) : Value → List (Addr × Obj) → Prop
  | mk (a d : Addr) (k : Nat → Tok) (u : Nat → Value) (hn : NewA [a, d] l) : RowP w l st (.ref a) ((a, instObj 202 d) :: (d, dictOf (rowE w k u st) 5) :: l)
theorem RowP.ret {w : World} {l : List (Addr × Obj)} {st : Value} {R : Value → List (Addr × Obj) → Prop} (k9 : ∀ (a d : Addr) (k : Nat → Tok) (u : Nat → Value) (hn : NewA [a, d] l), R (.ref a) ((a, instObj 202 d) :: (d, dictOf (rowE w k u st) 5) :: l)) : ∀ v9 l9, RowP w l st v9 l9 → R v9 l9 := fun _ _ h9 => RowP.rec (motive := fun v9 l9 _ => R v9 l9) k9 h9
theorem RowP.intro {w : World} {t0 t1 t2 t3 t4 : Tok} {u0 u1 u2 : Value} {st : Value} {l : List (Addr × Obj)} {a d : Addr} (hn : NewA [a, d] l) : RowP w l st (.ref a) ((a, instObj 202 d) :: (d, dictOf [en w "number" t0 u0, en w "priority" t1 u1, en w "cost" t2 u2, en w "is_edge" t3 (.bool false), en w "is_straight" t4 st] 5) :: l) :=
  .mk a d (fun i => [t0, t1, t2, t3, t4].getD i 0) (fun i => [u0, u1, u2].getD i .none) hn
inductive BpduP (w : World) (l : List (Addr × Obj)) (kin vec tim chg cack pro agr rol lea : Value) : Value → List (Addr × Obj) → Prop
  | mk (a d : Addr) (k : Nat → Tok) (u : Nat → Value) (hn : NewA [a, d] l) : BpduP w l kin vec tim chg cack pro agr rol lea (.ref a) ((a, instObj 89 d) :: (d, dictOf (bpduE w k u kin vec tim chg cack pro agr rol lea) 12) :: l)
theorem BpduP.ret {w : World} {l : List (Addr × Obj)} {kin vec tim chg cack pro agr rol lea : Value} {R : Value → List (Addr × Obj) → Prop} (k9 : ∀ (a d : Addr) (k : Nat → Tok) (u : Nat → Value) (hn : NewA [a, d] l), R (.ref a) ((a, instObj 89 d) :: (d, dictOf (bpduE w k u kin vec tim chg cack pro agr rol lea) 12) :: l)) : ∀ v9 l9, BpduP w l kin vec tim chg cack pro agr rol lea v9 l9 → R v9 l9 := fun _ _ h9 => BpduP.rec (motive := fun v9 l9 _ => R v9 l9) k9 h9
theorem BpduP.intro {w : World} {t0 t1 t2 t3 t4 t5 t6 t7 t8 t9 t10 t11 : Tok} {u0 u10 u11 : Value} {kin vec tim chg cack pro agr rol lea : Value} {l : List (Addr × Obj)} {a d : Addr} (hn : NewA [a, d] l) : BpduP w l kin vec tim chg cack pro agr rol lea (.ref a) ((a, instObj 89 d) :: (d, dictOf [en w "version" t0 u0, en w "kind" t1 kin, en w "vector" t2 vec, en w "times" t3 tim, en w "is_change" t4 chg, en w "is_change_ack" t5 cack, en w "is_proposal" t6 pro, en w "is_agreement" t7 agr, en w "role" t8 rol, en w "is_learning" t9 lea, en w "is_forwarding" t10 u10, en w "tail" t11 u11] 12) :: l) :=
  .mk a d (fun i => [t0, t1, t2, t3, t4, t5, t6, t7, t8, t9, t10, t11].getD i 0) (fun i => [u0, .none, .none, .none, .none, .none, .none, .none, .none, .none, u10, u11].getD i .none) hn
inductive NoticeP (w : World) (l : List (Addr × Obj)) : Value → List (Addr × Obj) → Prop
  | mk (a d : Addr) (k : Nat → Tok) (u : Nat → Value) (tk : Tok) (hn : NewA [a, d] l) : NoticeP w l (.ref a) ((a, instObj 89 d) :: (d, dictOf (bpduE w k u (.str (Str.ofString "change") tk) .none .none (.bool false) (.bool false) (.bool false) (.bool false) (.str (Str.ofString "none") 263) (.bool false)) 12) :: l)
theorem NoticeP.ret {w : World} {l : List (Addr × Obj)} {R : Value → List (Addr × Obj) → Prop} (k9 : ∀ (a d : Addr) (k : Nat → Tok) (u : Nat → Value) (tk : Tok) (hn : NewA [a, d] l), R (.ref a) ((a, instObj 89 d) :: (d, dictOf (bpduE w k u (.str (Str.ofString "change") tk) .none .none (.bool false) (.bool false) (.bool false) (.bool false) (.str (Str.ofString "none") 263) (.bool false)) 12) :: l)) : ∀ v9 l9, NoticeP w l v9 l9 → R v9 l9 := fun _ _ h9 => NoticeP.rec (motive := fun v9 l9 _ => R v9 l9) k9 h9
inductive MkP (w : World) (l : List (Addr × Obj)) (ra va xa : Addr) : Value → List (Addr × Obj) → Prop
  | mk (pa pd ta td ca cd : Addr) (k kt kc : Nat → Tok) (u ut uc : Nat → Value) (ti tl : Tok) (hn : NewA [ca, cd, ta, td, pa, pd] l) : MkP w l ra va xa (.ref pa) ((ca, instObj 272 cd) :: (cd, dictOf (changeE w kc uc (.bool false) (.bool false) (.bool false)) 6) :: (ta, instObj 237 td) :: (td, dictOf (timersE w kt ut (.int 0 tl)) 8) :: (pa, instObj 321 pd) :: (pd, dictOf (portE w k u ra ta ca .none (.str (Str.ofString "disabled") ti) (.ref va) (.ref xa) (.bool false) (.bool false) (.bool false) (.bool false) (.bool true) (.bool false) (.bool false)) 33) :: l)
theorem MkP.ret {w : World} {l : List (Addr × Obj)} {ra va xa : Addr} {R : Value → List (Addr × Obj) → Prop} (k9 : ∀ (pa pd ta td ca cd : Addr) (k kt kc : Nat → Tok) (u ut uc : Nat → Value) (ti tl : Tok) (hn : NewA [ca, cd, ta, td, pa, pd] l), R (.ref pa) ((ca, instObj 272 cd) :: (cd, dictOf (changeE w kc uc (.bool false) (.bool false) (.bool false)) 6) :: (ta, instObj 237 td) :: (td, dictOf (timersE w kt ut (.int 0 tl)) 8) :: (pa, instObj 321 pd) :: (pd, dictOf (portE w k u ra ta ca .none (.str (Str.ofString "disabled") ti) (.ref va) (.ref xa) (.bool false) (.bool false) (.bool false) (.bool false) (.bool true) (.bool false) (.bool false)) 33) :: l)) : ∀ v9 l9, MkP w l ra va xa v9 l9 → R v9 l9 := fun _ _ h9 => MkP.rec (motive := fun v9 l9 _ => R v9 l9) k9 h9
theorem MkP.intro {w : World} {t0 t1 t2 t3 t4 t5 t6 t7 t8 t9 t10 t11 t12 t13 t14 t15 t16 t17 t18 t19 t20 t21 t22 t23 t24 t25 t26 t27 t28 t29 t30 t31 t32 : Tok} {u3 u4 u9 u10 u11 u12 u15 u21 u22 u23 u24 u25 u26 u27 u28 u29 u30 u31 u32 : Value} {pa pd ra ta td ca cd va xa : Addr} {kt kc : Nat → Tok} {ut uc : Nat → Value} {ti tl : Tok} {l : List (Addr × Obj)} (hn : NewA [ca, cd, ta, td, pa, pd] l) : MkP w l ra va xa (.ref pa) ((ca, instObj 272 cd) :: (cd, dictOf (changeE w kc uc (.bool false) (.bool false) (.bool false)) 6) :: (ta, instObj 237 td) :: (td, dictOf (timersE w kt ut (.int 0 tl)) 8) :: (pa, instObj 321 pd) :: (pd, dictOf [en w "row" t0 (.ref ra), en w "timers" t1 (.ref ta), en w "change" t2 (.ref ca), en w "is_enabled" t3 u3, en w "is_edge" t4 u4, en w "told" t5 .none, en w "info" t6 (.str (Str.ofString "disabled") ti), en w "vector" t7 (.ref va), en w "times" t8 (.ref xa), en w "own_vector" t9 u9, en w "own_times" t10 u10, en w "role" t11 u11, en w "chosen" t12 u12, en w "selected" t13 (.bool false), en w "reselect" t14 (.bool true), en w "update" t15 u15, en w "proposing" t16 (.bool false), en w "proposed" t17 (.bool false), en w "agree" t18 (.bool false), en w "agreed" t19 (.bool false), en w "disputed" t20 (.bool false), en w "sync" t21 u21, en w "synced" t22 u22, en w "re_root" t23 u23, en w "learn" t24 u24, en w "forward" t25 u25, en w "learning" t26 u26, en w "forwarding" t27 u27, en w "is_new" t28 u28, en w "is_rapid" t29 u29, en w "migration" t30 u30, en w "heard_old" t31 u31, en w "heard_rapid" t32 u32] 33) :: l) :=
  .mk pa pd ta td ca cd (fun i => [t0, t1, t2, t3, t4, t5, t6, t7, t8, t9, t10, t11, t12, t13, t14, t15, t16, t17, t18, t19, t20, t21, t22, t23, t24, t25, t26, t27, t28, t29, t30, t31, t32].getD i 0) kt kc (fun i => [.none, .none, .none, u3, u4, .none, .none, .none, .none, u9, u10, u11, u12, .none, .none, u15, .none, .none, .none, .none, .none, u21, u22, u23, u24, u25, u26, u27, u28, u29, u30, u31, u32].getD i .none) ut uc ti tl hn
end
theorem IsVec.intro {l : List (Addr × Obj)} {a ar ab ap : Addr} {r0 r1 c b0 b1 p0 p1 : Int} {tc tr0 tr1 tb0 tb1 tp0 tp1 : Tok} (h1 : (a, tupO [.ref ar, .int c tc, .ref ab, .ref ap]) ∈ l) (h2 : (ap, tupO [.int p0 tp0, .int p1 tp1]) ∈ l) (h3 : (ab, tupO [.int b0 tb0, .int b1 tb1]) ∈ l) (h4 : (ar, tupO [.int r0 tr0, .int r1 tr1]) ∈ l) :
    IsVec l a ⟨r0, r1, c, b0, b1, p0, p1⟩ := ⟨ar, ab, ap, tc, tr0, tr1, tb0, tb1, tp0, tp1, h1, h2, h3, h4⟩
theorem put2 {x : List DictEntry × Nat} {l l' : List DictEntry} {n : Nat} (h : x = (l, n)) (e : l = l') : x = (l', n) := e ▸ h
theorem port_is {w : World} {k : Nat → Tok} {u : Nat → Value} {ra ta ca : Addr} {told inf vec tim pg pp ag ad rs sel dis : Value} : [en w "row" (k 0) (.ref ra), en w "timers" (k 1) (.ref ta), en w "change" (k 2) (.ref ca), en w "is_enabled" (k 3) (u 3), en w "is_edge" (k 4) (u 4), en w "told" (k 5) told, en w "info" (k 6) inf, en w "vector" (k 7) vec, en w "times" (k 8) tim, en w "own_vector" (k 9) (u 9), en w "own_times" (k 10) (u 10), en w "role" (k 11) (u 11), en w "chosen" (k 12) (u 12), en w "selected" (k 13) sel, en w "reselect" (k 14) rs, en w "update" (k 15) (u 15), en w "proposing" (k 16) pg, en w "proposed" (k 17) pp, en w "agree" (k 18) ag, en w "agreed" (k 19) ad, en w "disputed" (k 20) dis, en w "sync" (k 21) (u 21), en w "synced" (k 22) (u 22), en w "re_root" (k 23) (u 23), en w "learn" (k 24) (u 24), en w "forward" (k 25) (u 25), en w "learning" (k 26) (u 26), en w "forwarding" (k 27) (u 27), en w "is_new" (k 28) (u 28), en w "is_rapid" (k 29) (u 29), en w "migration" (k 30) (u 30), en w "heard_old" (k 31) (u 31), en w "heard_rapid" (k 32) (u 32)] = portE w k u ra ta ca told inf vec tim pg pp ag ad rs sel dis := rfl
theorem timers_is {w : World} {k : Nat → Tok} {u : Nat → Value} {inf : Value} : [en w "forward" (k 0) (u 0), en w "hello" (k 1) (u 1), en w "migrate" (k 2) (u 2), en w "backup" (k 3) (u 3), en w "info" (k 4) inf, en w "root" (k 5) (u 5), en w "change" (k 6) (u 6), en w "sent" (k 7) (u 7)] = timersE w k u inf := rfl
theorem change_is {w : World} {k : Nat → Tok} {u : Nat → Value} {hea ack noti : Value} : [en w "state" (k 0) (u 0), en w "is_heard" (k 1) hea, en w "is_acknowledged" (k 2) ack, en w "is_noticed" (k 3) noti, en w "is_spread" (k 4) (u 4), en w "owes_ack" (k 5) (u 5)] = changeE w k u hea ack noti := rfl

section
variable {prog : Program} {w : World} {A : Around} {E : Value → Shared → Prop} {s : Shared}
theorem adjust_to (b n : Nat) (hb : b ≤ n) : Builtin.Slice.sliceAdjust none (some (b : Int)) 1 (n : Int) = (0, (b : Int)) := by
  unfold Builtin.Slice.sliceAdjust
  have h1 : ¬ ((1 : Int) < 0) := by omega
  have h2 : ¬ ((b : Int) < 0) := by omega
  simp only [h1, h2, if_false]
  congr 1
  omega
theorem places_to (b : Nat) : Builtin.Slice.slicePlaces 0 (b : Int) 1 = b := by
  unfold Builtin.Slice.slicePlaces
  have h1 : (1 : Int) > 0 := by omega
  simp only [h1, if_true, Int.ediv_one]
  split <;> omega
theorem sliceApplied_to {sl : Addr} {b n : Nat} {u : Tok} {Q : Int × Int × Nat → Shared → Prop} (hs : s.heap.IsSliceOf sl .none (.int b u) .none) (hb : b ≤ n) (h : Q (0, 1, b) s) :
    wpAny (model prog w) A (Builtin.Slice.sliceApplied (.ref sl) (pure (n : Int))) Q E s := by
  obtain ⟨os, hos, hcs, hds⟩ := id hs
  unfold Builtin.Slice.sliceApplied Builtin.Slice.sliceFields
  refine wpAny_bind (wpAny_bind (wpAny_field hos hds (x := .none) rfl (wpAny_bind (wpAny_field hos hds (x := .int b u) rfl (wpAny_bind (wpAny_field hos hds (x := .none) rfl (wpAny_pure ?_)))))))
  refine wpAny_bind (slicePart_none ?_)
  show wpAny _ _ (if ((1 : Int) == 0) = true then _ else _) _ _ s
  rw [if_neg (by decide)]
  refine wpAny_bind (slicePart_none (wpAny_bind (slicePart_int (wpAny_bind (wpAny_pure ?_)))))
  show wpAny _ _ (match Builtin.Slice.sliceAdjust none (some (b : Int)) 1 (n : Int) with | (lo, hi) => pure (lo, (1 : Int), Builtin.Slice.slicePlaces lo hi 1)) _ _ s
  rw [adjust_to b n hb]
  show wpAny _ _ (pure ((0 : Int), (1 : Int), Builtin.Slice.slicePlaces 0 (b : Int) 1)) _ _ s
  rw [places_to b]
  exact wpAny_pure h
theorem getItem_tuple_to {t sl : Addr} {items : Array Value} {b : Nat} {u : Tok} {zs : List Value} {Q : Value → Shared → Prop} (ht : IsTup s.heap t items) (hs : s.heap.IsSliceOf sl .none (.int b u) .none) (hb : b < items.size)
    (hp : ((List.range b).filterMap fun (k : Nat) => items[((0 : Int) + (k : Int) * 1).toNat]?) = zs) (hz : zs.length ≤ sizeLine)
    (h : Q (.ref s.heap.objs.size) { s with heap := s.heap.push { cls := .type "tuple", data := .seq zs.toArray } }) : wpAny (model prog w) A (getItem (.ref t) (.ref sl)) Q E s := by
  have hdrop : sizeOk (.seq zs.toArray) := by
    show zs.toArray.size ≤ sizeLine
    rw [List.size_toArray]
    exact hz
  obtain ⟨os, hos, hcs, hds⟩ := id hs
  have hTs : s.TypeIs (.ref sl) "slice" := ⟨os, hos, hcs⟩
  unfold getItem
  try with_reducible refine wpAny_holding ?_
  first | refine wpAny_bind (wpAny_pure ?_) | skip
  refine wpAny_bind (wpAny_sequenceKey ht.typeIs (by decide) ?_)
  refine wpAny_bind (wpAny_callSpecial?_slot (name := Str.ofString "__getitem__") ht.typeIs slot_tuple_getitem
    (wpAny_call_entry slot_tuple_getitem ht.typeIs entry_tuple_getitem ?_ (args_tuple_getitem _ _)))
  show wpAny _ _ (Builtin.Tuple.tupleItemsOf (.ref t) >>= _) _ _ s
  refine wpAny_bind (tupleItemsOf_ ht ?_)
  refine wpAny_bind (wpAny_typeOf hTs ?_)
  rw [if_pos (by decide)]
  refine wpAny_bind (sliceApplied_to hs (Nat.le_of_lt hb) ?_)
  have hno : ¬ (((0 : Int) == 0 && (1 : Int) == 1 && b == items.size) = true) := by
    have : (b == items.size) = false := by rw [beq_eq_false_iff_ne]; omega
    rw [this]; simp
  show wpAny _ _ (if ((0 : Int) == 0 && (1 : Int) == 1 && b == items.size) = true then _ else _) _ _ s
  rw [if_neg hno, hp]
  first
    | exact wpAny_bind (m := Builtin.Tuple.tupleExact _) (wpAny_newObj_type (wpAny_pure ⟨_, rfl, wpAny_pure h⟩) hdrop)
    | exact wpAny_bind (m := Builtin.Tuple.tupleExact _) (wpAny_newObj_type (wpAny_bind (wpAny_pure (wpAny_pure ⟨_, rfl, wpAny_pure h⟩))) hdrop)
    | exact wpAny_bind (wpAny_bind (m := Builtin.Tuple.tupleExact _) (wpAny_newObj_type (wpAny_pure (wpAny_pure ⟨_, rfl, wpAny_pure h⟩)) hdrop))
    | exact wpAny_bind (wpAny_bind (m := Builtin.Tuple.tupleExact _) (wpAny_newObj_type (wpAny_pure ⟨_, rfl, wpAny_pure h⟩) hdrop))
theorem slice_tuple_to {h₀ : Heap} {L : Addr} {m : Str → Option Value} {news : List (Addr × Obj)} {value slice : PySem.Expr} {t : Addr} {items : Array Value} {b : Nat} {u : Tok} {zs : List Value} {Q : Value → Shared → Prop}
    (F : Fr h₀ L s.heap m) (N : News h₀ L s.heap news) (ht : IsTup s.heap t items) (hb : b < items.size) (hp : ((List.range b).filterMap fun (k : Nat) => items[((0 : Int) + (k : Int) * 1).toNat]?) = zs) (hz : zs.length ≤ sizeLine)
    (h : ∀ D h', Fr h₀ L h' m → News h₀ L h' ((D, { cls := .type "tuple", data := .seq zs.toArray }) :: news) → (∀ p ∈ news, p.1 < D) → Q (.ref D) { s with heap := h' })
    (hs : subscripted slice false (.ref t) (.ref s.heap.objs.size) = operate [.ref s.heap.objs.size, .ref t] (getItem (.ref t) (.ref s.heap.objs.size)))
    (hg : ∀ r, letTemporaryGo value (.ref t) r = pure ()) :
    wpAny (model prog w) A (subscriptTail value slice (.ref t) (.ref s.heap.objs.size)) Q E { s with heap := s.heap.push { cls := .type "slice", data := .fields #[.none, .int b u, .none] } } := by
  have ht' : IsTup (s.heap.push { cls := .type "slice", data := .fields #[.none, .int b u, .none] }) t items := ht.keeps fun _ _ e => Heap.get?_push_of_some _ e
  refine subscriptTail_ops (s := { s with heap := s.heap.push { cls := .type "slice", data := .fields #[.none, .int b u, .none] } }) ht'.typeIs slot_tuple_getitem.lookup
    (getItem_tuple_to ht' (Heap.IsSliceOf.new ..) hb hp hz ?_) hs hg
  have N1 := News.push (F.push { cls := .type "slice", data := .fields #[.none, .int b u, .none] }) (N.grown fun _ _ e => Heap.get?_push_of_some _ e) { cls := .type "tuple", data := .seq zs.toArray }
  rw [Heap.size_push] at N1
  show Q (.ref (s.heap.push _).objs.size) _
  rw [Heap.size_push]
  exact h _ _ ((F.push _).push _) N1 fun p hp => Nat.lt_succ_of_lt (Heap.lt_size (N p hp).1)
end

section
open PySem.Calls PySem.Spec PySem.SeqAt
open PySem.AutoSeq1 (wpAny_loadPart')
open PySem.MeetsSeq PySem.MeetsSeq2 PySem.MeetsSeq3 PySem.SeqRoads2
variable {A : Around} {s : Shared} {h₀ : Heap} {L : Addr} {l : List (Addr × Obj)}
theorem ve_all (X Y : Vec) : List.all [0, 1, 2, 3] (ve X Y) = veq X Y := by
  simp only [List.all_cons, List.all_nil, ve, veq, Vec.ls, Bool.and_true]
  rw [Bool.eq_iff_iff]
  simp only [Bool.and_eq_true, decide_eq_true_eq, beq_iff_eq, List.cons.injEq, and_true]
  omega
theorem vec_eqs (N : News h₀ L s.heap l) {ar ab ap ar' ab' ap' : Addr} {tc tr0 tr1 tb0 tb1 tp0 tp1 tc' tr0' tr1' tb0' tb1' tp0' tp1' : Tok} {X Y : Vec} (h2 : (ap, tupO [.int X.p0 tp0, .int X.p1 tp1]) ∈ l) (h3 : (ab, tupO [.int X.b0 tb0, .int X.b1 tb1]) ∈ l) (h4 : (ar, tupO [.int X.r0 tr0, .int X.r1 tr1]) ∈ l)
    (h2' : (ap', tupO [.int Y.p0 tp0', .int Y.p1 tp1']) ∈ l) (h3' : (ab', tupO [.int Y.b0 tb0', .int Y.b1 tb1']) ∈ l) (h4' : (ar', tupO [.int Y.r0 tr0', .int Y.r1 tr1']) ∈ l) (hu1 : A.units < cLine) :
    ∀ j (h1 : j < #[Value.ref ar, .int X.c tc, .ref ab, .ref ap].size) (h2 : j < #[Value.ref ar', .int Y.c tc', .ref ab', .ref ap'].size), EqAt A s #[Value.ref ar, .int X.c tc, .ref ab, .ref ap][j] #[Value.ref ar', .int Y.c tc', .ref ab', .ref ap'][j] (ve X Y j) := by
  intro j k1 k2
  match j, k1 with
  | 0, _ => exact eqAt_pair N h4 h4' hu1
  | 1, _ => exact EqAt.int_int _ _ _ _
  | 2, _ => exact eqAt_pair N h3 h3' hu1
  | 3, _ => exact eqAt_pair N h2 h2' hu1
theorem vec_eq {prog : Program} {w : World} {E Q : Value → Shared → Prop} (N : News h₀ L s.heap l) {a b : Addr} {X Y : Vec} (hx : IsVec l a X) (hy : IsVec l b Y) (hu : A.units + 8 < cLine) (h : Q (.bool (veq X Y)) s) :
    wpAny (model prog w) A (compareOp .Eq (.ref a) (.ref b)) Q E s := by
  obtain ⟨ar, ab, ap, tc, tr0, tr1, tb0, tb1, tp0, tp1, h1, h2, h3, h4⟩ := hx
  obtain ⟨ar', ab', ap', tc', tr0', tr1', tb0', tb1', tp0', tp1', h1', h2', h3', h4'⟩ := hy
  show wpAny _ _ (richCompare .Eq (.ref a) (.ref b)) Q E s
  have hu1 : A.in1.units < cLine := by have := units_in1 A; omega
  have R := RcAt.tuples (A := A) (s := s) (e := ve X Y) (tup_of N h1) (tup_of N h1') (by omega) (vec_eqs (tc := tc) (tc' := tc') N h2 h3 h4 h2' h3' h4' hu1)
  have e : ((List.range (min [Value.ref ar, .int X.c tc, .ref ab, .ref ap].toArray.size [Value.ref ar', .int Y.c tc', .ref ab', .ref ap'].toArray.size)).all (ve X Y) && [Value.ref ar, .int X.c tc, .ref ab, .ref ap].toArray.size == [Value.ref ar', .int Y.c tc', .ref ab', .ref ap'].toArray.size) = veq X Y := by
    show (List.all [0, 1, 2, 3] (ve X Y) && true) = _
    rw [Bool.and_true, ve_all]
  rw [e] at R
  exact R prog w E Q h
theorem vec_ne {prog : Program} {w : World} {E Q : Value → Shared → Prop} (N : News h₀ L s.heap l) {a b : Addr} {X Y : Vec} (hx : IsVec l a X) (hy : IsVec l b Y) (hu : A.units + 8 < cLine) (h : Q (.bool (!(veq X Y))) s) :
    wpAny (model prog w) A (compareOp .NotEq (.ref a) (.ref b)) Q E s := by
  obtain ⟨ar, ab, ap, tc, tr0, tr1, tb0, tb1, tp0, tp1, h1, h2, h3, h4⟩ := hx
  obtain ⟨ar', ab', ap', tc', tr0', tr1', tb0', tb1', tp0', tp1', h1', h2', h3', h4'⟩ := hy
  show wpAny _ _ (richCompare .NotEq (.ref a) (.ref b)) Q E s
  have hu1 : A.in1.units < cLine := by have := units_in1 A; omega
  have R := RcNeAt.tuples (A := A) (s := s) (e := ve X Y) (tup_of N h1) (tup_of N h1') (by omega) (vec_eqs (tc := tc) (tc' := tc') N h2 h3 h4 h2' h3' h4' hu1)
  have e : ((List.range (min [Value.ref ar, .int X.c tc, .ref ab, .ref ap].toArray.size [Value.ref ar', .int Y.c tc', .ref ab', .ref ap'].toArray.size)).all (ve X Y) && [Value.ref ar, .int X.c tc, .ref ab, .ref ap].toArray.size == [Value.ref ar', .int Y.c tc', .ref ab', .ref ap'].toArray.size) = veq X Y := by
    show (List.all [0, 1, 2, 3] (ve X Y) && true) = _
    rw [Bool.and_true, ve_all]
  rw [e] at R
  exact R prog w E Q h
noncomputable def sameP (X Y : Vec) : Bool := (X.b1 == Y.b1) && (X.p1 == Y.p1)
/-- two told tuples -/
theorem told_eqAt (N : News h₀ L s.heap l) {a b : Addr} {a0 a1 a2 a3 b0 b1 b2 b3 : Int} {t0 t1 t2 t3 u0 u1 u2 u3 : Tok} (ha : (a, tupO [.int a0 t0, .int a1 t1, .int a2 t2, .int a3 t3]) ∈ l) (hb : (b, tupO [.int b0 u0, .int b1 u1, .int b2 u2, .int b3 u3]) ∈ l) (hu : A.units < cLine) (e0 : a0 = b0) (e1 : a1 = b1) (e2 : a2 = b2) (e3 : a3 = b3) :
    EqAt A s (.ref a) (.ref b) true := by
  by_cases e : a = b
  · subst e; exact EqAt.same _
  · refine EqAt.of_refs e ?_
    have R := RcAt.tuples (A := A) (s := s) (e := fun _ => true) (tup_of N ha) (tup_of N hb) hu ?_
    · exact R
    · subst e0 e1 e2 e3
      have ii : ∀ (z : Int) (t u : Tok), EqAt A.in1 s (.int z t) (.int z u) true := fun z t u => by have := EqAt.int_int (A := A.in1) (s := s) z t z u; rwa [beq_self_eq_true] at this
      intro j h1 h2
      match j, h1 with
      | 0, _ => exact ii _ _ _
      | 1, _ => exact ii _ _ _
      | 2, _ => exact ii _ _ _
      | 3, _ => exact ii _ _ _
theorem anew_eqAt (N : News h₀ L s.heap l) {a b : Addr} {a0 a1 : Bool} (ha : (a, tupO [.bool a0, .bool a1]) ∈ l) (hb : (b, tupO [.bool a0, .bool a1]) ∈ l) (hu : A.units < cLine) :
    EqAt A s (.ref a) (.ref b) true := by
  by_cases e : a = b
  · subst e; exact EqAt.same _
  · refine EqAt.of_refs e ?_
    have R := RcAt.tuples (A := A) (s := s) (e := fun _ => true) (tup_of N ha) (tup_of N hb) hu ?_
    · exact R
    · intro j h1 h2
      match j, h1 with
      | 0, _ => exact EqAt.same _
      | 1, _ => exact EqAt.same _
theorem told_eq {prog : Program} {w : World} {E Q : Value → Shared → Prop} (N : News h₀ L s.heap l) {a b : Addr} {a0 a1 a2 a3 b0 b1 b2 b3 : Int} {t0 t1 t2 t3 u0 u1 u2 u3 : Tok} (ha : (a, tupO [.int a0 t0, .int a1 t1, .int a2 t2, .int a3 t3]) ∈ l) (hb : (b, tupO [.int b0 u0, .int b1 u1, .int b2 u2, .int b3 u3]) ∈ l) (hu : A.units < cLine) (h : Q (.bool (decide (a0 = b0 ∧ a1 = b1 ∧ a2 = b2 ∧ a3 = b3))) s) :
    wpAny (model prog w) A (compareOp .Eq (.ref a) (.ref b)) Q E s := by
  show wpAny _ _ (richCompare .Eq (.ref a) (.ref b)) Q E s
  have R := RcAt.tuples (A := A) (s := s) (e := fun j => match j with | 0 => a0 == b0 | 1 => a1 == b1 | 2 => a2 == b2 | _ => a3 == b3) (tup_of N ha) (tup_of N hb) hu ?_
  · have e : ((List.range (min [Value.int a0 t0, .int a1 t1, .int a2 t2, .int a3 t3].toArray.size [Value.int b0 u0, .int b1 u1, .int b2 u2, .int b3 u3].toArray.size)).all (fun j => match j with | 0 => a0 == b0 | 1 => a1 == b1 | 2 => a2 == b2 | _ => a3 == b3) && [Value.int a0 t0, .int a1 t1, .int a2 t2, .int a3 t3].toArray.size == [Value.int b0 u0, .int b1 u1, .int b2 u2, .int b3 u3].toArray.size) = decide (a0 = b0 ∧ a1 = b1 ∧ a2 = b2 ∧ a3 = b3) := by
      show ((a0 == b0 && (a1 == b1 && (a2 == b2 && (a3 == b3 && true)))) && true) = _
      rw [Bool.eq_iff_iff]
      simp
    rw [e] at R
    exact R prog w E Q h
  · intro j h1 h2
    match j, h1 with
    | 0, _ => exact EqAt.int_int _ _ _ _
    | 1, _ => exact EqAt.int_int _ _ _ _
    | 2, _ => exact EqAt.int_int _ _ _ _
    | 3, _ => exact EqAt.int_int _ _ _ _
end

local macro_rules | `(tactic| k_mem) => `(tactic| assumption)
local macro_rules | `(tactic| k_lt $h) => `(tactic| ((with_reducible rename Apart _ _ => hD); k_dflt (have hD2 := Apart.add hD $h rfl rfl); clear hD))
local macro_rules | `(tactic| k_lt2 $h) => `(tactic| ((with_reducible rename Apart _ _ => hD); rename (∀ p : PySem.Addr × PySem.Obj, p ∈ _ → p.1 < _) => hl; k_dflt (have hD2 := Apart.add2 hD hl $h rfl rfl); clear hD hl))
local macro_rules | `(tactic| k_mem) => `(tactic| first | exact Put.head | (refine' Put.tail ?b9; (case b9 => k_mem)))
local macro_rules | `(tactic| k_mem) => `(tactic| first | exact At.head | (refine' At.tail ?b9; (case b9 => k_mem)))
local macro_rules | `(tactic| k_upd) => `(tactic| ((with_reducible rename Apart _ _ => hD); refine' upd_of hD ?up ?um ?e1 ?e2; (case up => k_mem); (case um => k_mem); (case e1 => k_dflt rfl); (case e2 => k_dflt rfl)))
local macro_rules | `(tactic| k_updF) => `(tactic| ((with_reducible rename Apart _ _ => hD); refine' updF_of hD ?up ?um ?e1 ?e2; (case up => k_mem); (case um => k_mem); (case e1 => k_dflt rfl); (case e2 => k_dflt rfl)))
local macro_rules | `(tactic| k_updF) => `(tactic| assumption)
local macro_rules | `(tactic| walk_at "binaryOp Mult int int") => `(tactic| refine mul_fm ?_)
local macro_rules | `(tactic| walk_at "subscriptTail Name Constant ref int") => `(tactic| (k_here; (with_reducible show wpAny _ _ (subscriptTail _ _ (Value.ref _) (Value.int _ _)) _ _ _); (with_unfolding_all refine' item_litK ?k1 ?k2 ?k3 ?k4 ?_ ?k6; (case k1 => is_list); (case k2 => decide); (case k3 => decide); (case k4 => rfl); (case k6 => with_unfolding_all rfl); k_whole)))
local macro_rules | `(tactic| k_mem) => `(tactic| first | exact List.Sublist.refl _ | (refine' List.Sublist.cons_cons _ ?b9; (case b9 => k_mem)) | (refine' List.Sublist.cons _ ?b9; (case b9 => k_mem)))
local macro_rules | `(tactic| k_room) => `(tactic| ktr_room)
local macro_rules | `(tactic| k_mem) => `(tactic| with_reducible assumption)
local macro_rules | `(tactic| k_mem) => `(tactic| first | exact Out.head | (refine' Out.tail ?b9; (case b9 => k_mem)))
local macro_rules | `(tactic| lcg_off) => `(tactic| (k_dflt assumption))
local macro_rules | `(tactic| walk_at "CompEnd") => `(tactic| (refine' compEnd_ ?F ?N ?d1 ?d2 ?d3 ?off ?hS ?_; (case F => assumption); (case N => assumption); (case d1 => k_mem); (case d2 => k_mem); (case d3 => k_mem); (case off => lcg_off); (case hS => lcg_src)))
local macro_rules | `(tactic| k_mem) => `(tactic| first | exact Split.nil | (refine' Split.cons ?b9; (case b9 => k_mem)) | ((with_reducible refine List.mem_append_left _ ?_); k_mem) | ((with_reducible refine List.mem_append_right _ ?_); k_mem))
local macro_rules | `(tactic| walk_at "subscriptTail Name Constant ref int") => `(tactic| (k_here; (with_reducible show wpAny _ _ (subscriptTail _ _ (Value.ref _) (Value.int _ _)) _ _ _); k_dflt (refine' item_tupleT ?t ?a ?b ?c ?d ?_; (case t => exact News.isTup (by k_asm) (by k_mem)); (case a => decide); (case b => decide); (case c => rfl); (case d => rfl); k_whole)))
local macro_rules | `(tactic| walk_at "subscriptTail Subscript Name Constant Constant ref int") => `(tactic| (k_here; (with_reducible show wpAny _ _ (subscriptTail _ _ (Value.ref _) (Value.int _ _)) _ _ _); k_dflt (refine' item_tupleT ?t ?a ?b ?c ?d ?_; (case t => exact News.isTup (by k_asm) (by k_mem)); (case a => decide); (case b => decide); (case c => rfl); (case d => rfl); k_whole)))
local macro_rules | `(tactic| walk_at "subscriptTail Attribute Name Constant ref int") => `(tactic| (k_here; (with_reducible show wpAny _ _ (subscriptTail _ _ (Value.ref _) (Value.int _ _)) _ _ _); k_dflt (refine' item_tupleT ?t ?a ?b ?c ?d ?_; (case t => exact News.isTup (by k_asm) (by k_mem)); (case a => decide); (case b => decide); (case c => rfl); (case d => rfl); k_whole)))
local macro_rules | `(tactic| k_mem) => `(tactic| first | exact List.sublist_append_left _ _ | exact List.sublist_append_right _ _)
local macro_rules | `(tactic| k_mem) => `(tactic| first | exact News.nil_of | ((with_reducible refine News.cons_of ?b7 ?b9 ?b8); (case b7 => k_asm); (case b9 => k_mem); (case b8 => k_mem)) | ((with_reducible refine News.app_of ?b9 ?b8); (case b9 => k_mem); (case b8 => k_mem)) | ((with_reducible refine News.subl ?b7 ?b9); (case b7 => k_asm); (case b9 => k_mem)))
local macro_rules | `(tactic| walk_at "setAttr ref") => `(tactic| (k_here; k_dflt (refine' set_dictT ?k1 ?k2 ?k3 ?k4 ?k5 ?k6 ?k7 ?k8 ?k9 ?k10 ?_; (case k1 => k_asm); (case k2 => k_asm); (case k3 => k_asm); (case k4 => k_inst); (case k5 => exact rfl); (case k6 => k_is); (case k7 => k_is); (case k8 => k_is); (case k9 => k_is); (case k10 => k_get); k_whole; intro _; refine' ex3 (put2 ?k11 ?k14) ?k12 ?k13 ?_; (case k11 => k_put); (case k14 => first | exact port_is | exact timers_is | exact change_is | exact rfl); (case k12 => k_upd); (case k13 => exact Nat.le_of_ble_eq_true rfl); k_whole; intro h' _ F' N'; (try dsimp only at N'); (try k_sweep))))
local macro_rules | `(tactic| ktr_units) => `(tactic| (have hcL9 := cLine_is; (try simp only [units_under_make, units_in1, units_deeper, units_caller]); (try dsimp only [ktrTop]); omega))

inductive TakeP (g : Obj → List (Addr × Obj)) (top : Int) : Value → List (Addr × Obj) → Prop
  | mk (d : Int) (td : Tok) (a' b' : Int) (ta' tb' : Tok) (n' : Nat) (h0 : 0 ≤ d) (h1 : d < top) : TakeP g top (.int d td) (g (srcO a' b' ta' tb' n'))
theorem TakeP.ret {g : Obj → List (Addr × Obj)} {top : Int} {R : Value → List (Addr × Obj) → Prop} (k9 : ∀ (d : Int) (td : Tok) (a' b' : Int) (ta' tb' : Tok) (n' : Nat) (h0 : 0 ≤ d) (h1 : d < top), R (.int d td) (g (srcO a' b' ta' tb' n'))) : ∀ v9 l9, TakeP g top v9 l9 → R v9 l9 := fun _ _ h9 => TakeP.rec (motive := fun v9 l9 _ => R v9 l9) k9 h9
set_option maxHeartbeats 1000000 in
theorem take_c {prog : Program} (w : World) {l : List (Addr × Obj)} {g : Obj → List (Addr × Obj)} {src : Addr} {a b : Int} {ta tb : Tok} {n : Nat} {top : Int} {tt : Tok} (U : UpdF src (srcO a b ta tb n) l g) (ht : 1 ≤ top) (ht2 : top ≤ 9) :
    Con prog w 2 339 [.ref src, .int top tt] l (TakeP g top) := by
  unfold Con
  intro mean mg mb dp un gd cn cs ca ccd cl outer A₀ base h₀ L m s Q E B F X N T hk hd hu hret
  obtain ⟨rest, hin, hout, D, _, _⟩ := UpdF.front (h₀ := h₀) (L := L) U
  replace N := hin _ N
  refine wpAny_call ?_
  k_dflt ktr_enter
  (repeat' (first | (k_unfold; (try dsimp only)) | walk1 | (dsimp only; walk1) | (leave1; (try dsimp only)) | fail "no step"))
  all_goals refine hret _ _ _ _ (.mk _ _ _ _ _ _ _ ?_ ?_) (by k_asm) (hout _ [] _ (by k_asm))
  all_goals first | exact fm_lo _ (by omega) | exact fm_hi _ (by omega)

inductive OneP (g : Obj → List (Addr × Obj)) (vs : List Value) (v : Value) : List (Addr × Obj) → Prop
  | mk (hv : v ∈ vs) (a' b' : Int) (ta' tb' : Tok) (n' : Nat) : OneP g vs v (g (srcO a' b' ta' tb' n'))
theorem OneP.ret {g : Obj → List (Addr × Obj)} {vs : List Value} {R : Value → List (Addr × Obj) → Prop} (k9 : ∀ v, v ∈ vs → ∀ (a' b' : Int) (ta' tb' : Tok) (n' : Nat), R v (g (srcO a' b' ta' tb' n'))) : ∀ v l, OneP g vs v l → R v l := fun v _ h9 => OneP.rec (motive := fun l _ => R v l) (k9 v) h9
set_option maxHeartbeats 1000000 in
theorem one_c {prog : Program} (w : World) {l : List (Addr × Obj)} {g : Obj → List (Addr × Obj)} {src lst : Addr} {a b : Int} {ta tb : Tok} {n n2 : Nat} {vs : List Value} (U : UpdF src (srcO a b ta tb n) l g) (hm : ∀ o', (lst, listOf vs.toArray n2) ∈ g o') (ht : 1 ≤ vs.length) (ht2 : vs.length ≤ 9) :
    Con prog w 3 346 [.ref src, .ref lst] l (OneP g vs) := by
  unfold Con
  intro mean mg mb dp un gd cn cs ca ccd cl outer A₀ base h₀ L m s Q E B F X N T hk hd hu hret
  obtain ⟨rest, hin, hout, D, hr, _⟩ := UpdF.front (h₀ := h₀) (L := L) U
  replace hr := hr _ hm
  clear hm
  replace N := hin _ N
  refine wpAny_call ?_
  k_dflt ktr_enter
  (repeat' (first | (k_unfold; (try dsimp only)) | ((with_reducible show wpAny _ _ (call (Value.ref _) _) _ _ _); first | ((with_reducible show wpAny _ _ (call (Value.ref 339) _) _ _ _); refine' con_use (take_c _ ?U ?ht ?ht2) ?k1 ?k2 ?k3 ?k4 ?k5 ?k6 ?k7 ?k8 ?_; (case k1 => k_asm); (case k2 => k_asm); (case k3 => k_asm); (case k4 => k_asm); (case k5 => k_asm); (case U => k_updF); (case ht => omega); (case ht2 => omega); (case k6 => first | exact rfl | assumption); (case k7 => ktr_room); (case k8 => ktr_units); refine' TakeP.ret ?_; intro d' td' a' b' ta' tb' n' lo' hi'; intro h' tk' F' N'; (try dsimp only at N'); (try k_sweep))) | ((with_reducible show wpAny _ _ (subscriptTail _ _ (Value.ref _) (Value.int _ _)) _ _ _); (refine' item_any ?k1 ?k2 ?k3 ?k4 ?_ ?k6; (case k1 => exact isListOf (by k_asm) (by k_mem)); (case k2 => assumption); (case k3 => omega); (case k4 => omega); (case k6 => with_unfolding_all rfl); k_whole); intro v' hv') | ((with_reducible show wpAny _ _ (call (Value.builtin "len") _) _ _ _); (refine' len_list ?k1 ?k2 ?_; (case k1 => exact isListOf (by k_asm) (by k_mem)); (case k2 => (rw [List.size_toArray]; omega))); (try rw [List.size_toArray])) | walk1 | (dsimp only; walk1) | (leave1; (try dsimp only)) | fail "no step"))
  all_goals exact hret _ _ _ _ (.mk (by assumption) _ _ _ _ _) (by k_asm) (hout _ [] _ (by k_asm))

inductive VectorP (l : List (Addr × Obj)) (g : Obj → List (Addr × Obj)) : Value → List (Addr × Obj) → Prop
  | mk (av : Addr) (l2 : List (Addr × Obj)) (X : Vec) (a' b' : Int) (ta' tb' : Tok) (n' : Nat) (hn : NewA (l2.map (·.1)) l) (hv : IsVec l2 av X) : VectorP l g (.ref av) (l2 ++ g (srcO a' b' ta' tb' n'))
theorem VectorP.ret {l : List (Addr × Obj)} {g : Obj → List (Addr × Obj)} {R : Value → List (Addr × Obj) → Prop} (k9 : ∀ (av : Addr) (l2 : List (Addr × Obj)) (X : Vec) (a' b' : Int) (ta' tb' : Tok) (n' : Nat) (hn : NewA (l2.map (·.1)) l) (hv : IsVec l2 av X), R (.ref av) (l2 ++ g (srcO a' b' ta' tb' n'))) : ∀ v9 l9, VectorP l g v9 l9 → R v9 l9 := fun _ _ h9 => VectorP.rec (motive := fun v9 l9 _ => R v9 l9) k9 h9
set_option maxHeartbeats 1000000 in
theorem vector_c {prog : Program} (w : World) {l : List (Addr × Obj)} {g : Obj → List (Addr × Obj)} {src : Addr} {a b : Int} {ta tb : Tok} {n : Nat} (U : UpdF src (srcO a b ta tb n) l g) :
    Con prog w 3 353 [.ref src] l (VectorP l g) := by
  unfold Con
  intro mean mg mb dp un gd cn cs ca ccd cl outer A₀ base h₀ L m s Q E B F X N T hk hd hu hret
  obtain ⟨rest, hin, hout, D, _, hl⟩ := UpdF.front (h₀ := h₀) (L := L) U
  replace N := hin _ N
  refine wpAny_call ?_
  k_dflt ktr_enter
  (repeat' (first | (k_unfold; (try dsimp only)) | ((with_reducible show wpAny _ _ (call (Value.ref _) _) _ _ _); first | ((with_reducible show wpAny _ _ (call (Value.ref 339) _) _ _ _); refine' con_use (take_c _ ?U ?ht ?ht2) ?k1 ?k2 ?k3 ?k4 ?k5 ?k6 ?k7 ?k8 ?_; (case k1 => k_asm); (case k2 => k_asm); (case k3 => k_asm); (case k4 => k_asm); (case k5 => k_asm); (case U => k_updF); (case ht => omega); (case ht2 => omega); (case k6 => first | exact rfl | assumption); (case k7 => ktr_room); (case k8 => ktr_units); refine' TakeP.ret ?_; intro d' td' a' b' ta' tb' n' lo' hi'; intro h' tk' F' N'; (try dsimp only at N'); (try k_sweep)) | ((with_reducible show wpAny _ _ (call (Value.ref 346) _) _ _ _); refine' con_use (one_c _ ?U ?hm ?ht ?ht2) ?k1 ?k2 ?k3 ?k4 ?k5 ?k6 ?k7 ?k8 ?_; (case k1 => k_asm); (case k2 => k_asm); (case k3 => k_asm); (case k4 => k_asm); (case k5 => k_asm); (case U => k_updF); (case hm => (intro o9; (try dsimp only); k_mem)); (case ht => exact Nat.le_of_ble_eq_true rfl); (case ht2 => exact Nat.le_of_ble_eq_true rfl); (case k6 => first | exact rfl | assumption); (case k7 => ktr_room); (case k8 => ktr_units); refine' OneP.ret ?_; (first | refine' mem_int4 ?_ | refine' mem_int2 ?_ | refine' mem_str3 ?_ | refine' mem_str4 ?_ | refine' mem_str5 ?_); intro x' t' hx' a' b' ta' tb' n'; intro h' tk' F' N'; (try dsimp only at N'); (try k_sweep))) | walk1 | (dsimp only; walk1) | (leave1; (try dsimp only)) | fail "no step"))
  (with_reducible rename Apart _ _ => hD)
  refine' hret _ _ _ _ (.mk _ [(_, tupO [.ref _, .int _ _, .ref _, .ref _]), (_, tupO [.int 8 _, .int _ _]), (_, tupO [.int 2 _, .int _ _]), (_, tupO [.int 1 _, .int _ _])] _ _ _ _ _ _ (NewA.of hD ?sb hl) (IsVec.intro ?i1 ?i2 ?i3 ?i4)) ?fr (hout _ [(_, tupO [.ref _, .int _ _, .ref _, .ref _]), (_, tupO [.int 8 _, .int _ _]), (_, tupO [.int 2 _, .int _ _]), (_, tupO [.int 1 _, .int _ _])] _ (News.subl ?n0 ?n1))
  case fr => k_asm
  case n0 => k_asm
  case n1 => k_mem
  case sb => simp only [List.map_cons, List.map_nil, List.cons_append, List.nil_append]; k_mem
  case i1 => k_mem
  case i2 => k_mem
  case i3 => k_mem
  case i4 => k_mem

inductive TimesP (w : World) (l : List (Addr × Obj)) (g : Obj → List (Addr × Obj)) : Value → List (Addr × Obj) → Prop
  | mk (x d : Addr) (k1 k2 k3 k4 : Tok) (ag : Int) (tag tm : Tok) (he : Int) (the td : Tok) (a' b' : Int) (ta' tb' : Tok) (n' : Nat) (hn : NewA [x, d] l) : TimesP w l g (.ref x) ((x, instObj 53 d) :: (d, dictOf (timesE w k1 k2 k3 k4 ag tag 6 tm he the 9 td) 4) :: g (srcO a' b' ta' tb' n'))
theorem TimesP.ret {w : World} {l : List (Addr × Obj)} {g : Obj → List (Addr × Obj)} {R : Value → List (Addr × Obj) → Prop} (k9 : ∀ (x d : Addr) (k1 k2 k3 k4 : Tok) (ag : Int) (tag tm : Tok) (he : Int) (the td : Tok) (a' b' : Int) (ta' tb' : Tok) (n' : Nat) (hn : NewA [x, d] l), R (.ref x) ((x, instObj 53 d) :: (d, dictOf (timesE w k1 k2 k3 k4 ag tag 6 tm he the 9 td) 4) :: g (srcO a' b' ta' tb' n'))) : ∀ v9 l9, TimesP w l g v9 l9 → R v9 l9 := fun _ _ h9 => TimesP.rec (motive := fun v9 l9 _ => R v9 l9) k9 h9
set_option maxHeartbeats 1000000 in
theorem times_c {prog : Program} (w : World) {l : List (Addr × Obj)} {g : Obj → List (Addr × Obj)} {src : Addr} {a b : Int} {ta tb : Tok} {n : Nat} (U : UpdF src (srcO a b ta tb n) l g) :
    Con prog w 5 379 [.ref src] l (TimesP w l g) := by
  unfold Con
  intro mean mg mb dp un gd cn cs ca ccd cl outer A₀ base h₀ L m s Q E B F X N T hk hd hu hret
  obtain ⟨rest, hin, hout, D, _, hl⟩ := UpdF.front (h₀ := h₀) (L := L) U
  replace N := hin _ N
  refine wpAny_call ?_
  k_dflt ktr_enter
  (repeat' (first | (k_unfold; (try dsimp only)) | ((with_reducible show wpAny _ _ (call (Value.ref _) _) _ _ _); first | ((with_reducible show wpAny _ _ (call (Value.ref 339) _) _ _ _); refine' con_use (take_c _ ?U ?ht ?ht2) ?k1 ?k2 ?k3 ?k4 ?k5 ?k6 ?k7 ?k8 ?_; (case k1 => k_asm); (case k2 => k_asm); (case k3 => k_asm); (case k4 => k_asm); (case k5 => k_asm); (case U => k_updF); (case ht => omega); (case ht2 => omega); (case k6 => first | exact rfl | assumption); (case k7 => ktr_room); (case k8 => ktr_units); refine' TakeP.ret ?_; intro d' td' a' b' ta' tb' n' lo' hi'; intro h' tk' F' N'; (try dsimp only at N'); (try k_sweep)) | ((with_reducible show wpAny _ _ (call (Value.ref 346) _) _ _ _); refine' con_use (one_c _ ?U ?hm ?ht ?ht2) ?k1 ?k2 ?k3 ?k4 ?k5 ?k6 ?k7 ?k8 ?_; (case k1 => k_asm); (case k2 => k_asm); (case k3 => k_asm); (case k4 => k_asm); (case k5 => k_asm); (case U => k_updF); (case hm => (intro o9; (try dsimp only); k_mem)); (case ht => exact Nat.le_of_ble_eq_true rfl); (case ht2 => exact Nat.le_of_ble_eq_true rfl); (case k6 => first | exact rfl | assumption); (case k7 => ktr_room); (case k8 => ktr_units); refine' OneP.ret ?_; (first | refine' mem_int4 ?_ | refine' mem_int2 ?_ | refine' mem_str3 ?_ | refine' mem_str4 ?_ | refine' mem_str5 ?_); intro x' t' hx' a' b' ta' tb' n'; intro h' tk' F' N'; (try dsimp only at N'); (try k_sweep))) | walk1 | (dsimp only; walk1) | (leave1; (try dsimp only)) | fail "no step"))
  (with_reducible rename Apart _ _ => hD)
  refine' hret _ _ _ _ (.mk _ _ _ _ _ _ _ _ _ _ _ _ _ _ _ _ _ (NewA.of hD ?sb hl)) ?fr (hout _ [_, _] _ (News.subl ?n0 ?n1))
  case fr => k_asm
  case n0 => k_asm
  case n1 => k_mem
  case sb => simp only [List.cons_append, List.nil_append]; k_mem

set_option maxHeartbeats 2000000 in
theorem timers_c {prog : Program} (w : World) {l : List (Addr × Obj)} :
    Con prog w 3 237 [] l (TimersP w l) := by
  unfold Con
  intro mean mg mb dp un gd cn cs ca' ccd cl outer A₀ base h₀ L m s Q E B F X N T hk hd hu hret
  have D := Apart.nil (rest := l)
  k_dflt (refine' call_cls ?k1 ?k2 ?k3 ?k4 ?k5 ?k6 ?_; (case k1 => k_asm); (case k2 => k_asm); (case k3 => k_asm); (case k4 => k_is); (case k5 => k_is); (case k6 => k_is); k_whole; intro x' d' h' F' N' l1 l2; (try k_lt l1); (try k_lt2 l2); (try k_sweep); ktr_enter)
  (repeat' (first | (k_unfold; (try dsimp only)) | walk1 | (dsimp only; walk1) | (leave1; (try dsimp only)) | fail "no step"))
  (with_reducible rename Apart _ _ => hD)
  refine' hret _ _ _ _ (TimersP.intro (NewA.of0 hD ?sb)) ?fr ?nn
  case fr => k_asm
  case nn => k_asm
  case sb => k_mem
set_option maxHeartbeats 2000000 in
theorem change_c {prog : Program} (w : World) {l : List (Addr × Obj)} :
    Con prog w 3 272 [] l (ChangeP w l) := by
  unfold Con
  intro mean mg mb dp un gd cn cs ca' ccd cl outer A₀ base h₀ L m s Q E B F X N T hk hd hu hret
  have D := Apart.nil (rest := l)
  k_dflt (refine' call_cls ?k1 ?k2 ?k3 ?k4 ?k5 ?k6 ?_; (case k1 => k_asm); (case k2 => k_asm); (case k3 => k_asm); (case k4 => k_is); (case k5 => k_is); (case k6 => k_is); k_whole; intro x' d' h' F' N' l1 l2; (try k_lt l1); (try k_lt2 l2); (try k_sweep); ktr_enter)
  (repeat' (first | (k_unfold; (try dsimp only)) | walk1 | (dsimp only; walk1) | (leave1; (try dsimp only)) | fail "no step"))
  (with_reducible rename Apart _ _ => hD)
  refine' hret _ _ _ _ (ChangeP.intro (NewA.of0 hD ?sb)) ?fr ?nn
  case fr => k_asm
  case nn => k_asm
  case sb => k_mem
set_option maxHeartbeats 2000000 in
theorem row_c {prog : Program} (w : World) {l : List (Addr × Obj)} {v1 v2 v3 v5 : Value} :
    Con prog w 3 202 [v1, v2, v3, .bool false, v5] l (RowP w l v5) := by
  unfold Con
  intro mean mg mb dp un gd cn cs ca' ccd cl outer A₀ base h₀ L m s Q E B F X N T hk hd hu hret
  have D := Apart.nil (rest := l)
  k_dflt (refine' call_cls ?k1 ?k2 ?k3 ?k4 ?k5 ?k6 ?_; (case k1 => k_asm); (case k2 => k_asm); (case k3 => k_asm); (case k4 => k_is); (case k5 => k_is); (case k6 => k_is); k_whole; intro x' d' h' F' N' l1 l2; (try k_lt l1); (try k_lt2 l2); (try k_sweep); (refine' code_def ?k1 ?k2 ?k3 ?k4 ?k5 ?kA ?kF ?kK ?k6 ?k7 ?k8 ?k9 ?kB ?_ ?c2 ?c3 ?c4 ?c5; (case kA => exact rfl); (case kF => exact rfl); (case kK => assumption); (case k1 => k_asm); (case k2 => k_asm); (case k3 => k_asm); (case k4 => k_asm); (case k5 => k_asm); (case k6 => k_is); (case k7 => k_is); (case k8 => ktr_room); (case k9 => first | exact BindsTo.of_eq rfl | exact binds_K (by k_in) rfl (by k_is) rfl rfl rfl); (case c5 => decide); (case kB => exact locs rfl); (case c2 => exact rfl); (case c3 => exact rfl); (case c4 => exact rfl); k_whole; intro g' L' h' FG' F' N' B' X' T'; (try dsimp only); (try k_fold)))
  (repeat' (first | (k_unfold; (try dsimp only)) | walk1 | (dsimp only; walk1) | (leave1; (try dsimp only)) | fail "no step"))
  (with_reducible rename Apart _ _ => hD)
  refine' hret _ _ _ _ (RowP.intro (NewA.of0 hD ?sb)) ?fr ?nn
  case fr => k_asm
  case nn => k_asm
  case sb => k_mem

set_option maxHeartbeats 2000000 in
theorem mkport_c {prog : Program} (w : World) {l : List (Addr × Obj)} {ra rd va xa : Addr} {k : Nat → Tok} {u : Nat → Value} {st : Value} (h1 : (ra, instObj 202 rd) ∈ l) (h2 : (rd, dictOf (rowE w k u st) 5) ∈ l) :
    Con prog w 5 321 [.ref ra, .ref va, .ref xa] l (MkP w l ra va xa) := by
  unfold Con
  intro mean mg mb dp un gd cn cs ca' ccd cl outer A₀ base h₀ L m s Q E B F X N T hk hd hu hret
  have D := Apart.nil (rest := l)
  k_dflt (refine' call_cls ?k1 ?k2 ?k3 ?k4 ?k5 ?k6 ?_; (case k1 => k_asm); (case k2 => k_asm); (case k3 => k_asm); (case k4 => k_is); (case k5 => k_is); (case k6 => k_is); k_whole; intro x' d' h' F' N' l1 l2; (try k_lt l1); (try k_lt2 l2); (try k_sweep); ktr_enter)
  (repeat' (first | (k_unfold; (try dsimp only)) | ((with_reducible show wpAny _ _ (call (Value.ref _) _) _ _ _); first | ((with_reducible show wpAny _ _ (call (Value.ref 237) _) _ _ _); refine' con_use (timers_c _) ?k1 ?k2 ?k3 ?k4 ?k5 ?k6 ?k7 ?k8 ?_; (case k1 => k_asm); (case k2 => k_asm); (case k3 => k_asm); (case k4 => k_asm); (case k5 => k_asm); (case k6 => first | exact rfl | assumption); (case k7 => ktr_room); (case k8 => ktr_units); refine' TimersP.ret ?_; intro x d k u tk hn'; (with_reducible rename Apart _ _ => hD); (have hD2 := Apart.more hD hn' rfl rfl); clear hD hn'; dsimp only [List.cons_append, List.nil_append] at hD2; intro h' tk' F' N'; (try dsimp only at N'); (try k_sweep)) | ((with_reducible show wpAny _ _ (call (Value.ref 272) _) _ _ _); refine' con_use (change_c _) ?k1 ?k2 ?k3 ?k4 ?k5 ?k6 ?k7 ?k8 ?_; (case k1 => k_asm); (case k2 => k_asm); (case k3 => k_asm); (case k4 => k_asm); (case k5 => k_asm); (case k6 => first | exact rfl | assumption); (case k7 => ktr_room); (case k8 => ktr_units); refine' ChangeP.ret ?_; intro x d k u hn'; (with_reducible rename Apart _ _ => hD); (have hD2 := Apart.more hD hn' rfl rfl); clear hD hn'; dsimp only [List.cons_append, List.nil_append] at hD2; intro h' tk' F' N'; (try dsimp only at N'); (try k_sweep))) | walk1 | (dsimp only; walk1) | (leave1; (try dsimp only)) | fail "no step"))
  (with_reducible rename Apart _ _ => hD)
  refine' hret _ _ _ _ (MkP.intro (NewA.of0 hD ?sb)) ?fr ?nn
  case fr => k_asm
  case nn => k_asm
  case sb => k_mem

theorem port_end {h₀ h : Heap} {L : Addr} {c0 c1 c2 c3 ca cd ta td pa pd xa xd ra rd src : Addr} {o0 o1 o2 o3 oca ocd ota otd opa opd oxa oxd ora ord o o' : Obj} {l l2 rest ln : List (Addr × Obj)} (D : Apart [c0, c1, c2, c3, ca, cd, ta, td, pa, pd, xa, xd, ra, rd, src] (l2 ++ rest))
    (N : News h₀ L h ((c0, o0) :: (c1, o1) :: (c2, o2) :: (c3, o3) :: (ca, oca) :: (cd, ocd) :: (ta, ota) :: (td, otd) :: (pa, opa) :: (pd, opd) :: (xa, oxa) :: (xd, oxd) :: (ra, ora) :: (rd, ord) :: (src, o) :: (l2 ++ rest)))
    (hl : ∀ p ∈ l, p.1 = src ∨ p ∈ rest) (hn : NewA (l2.map (·.1)) ln) (h1 : (src, o') ∈ ln) (h2 : rest.Sublist ln) :
    NewA ([ca, cd, ta, td, pa, pd, xa, xd, ra, rd] ++ l2.map (·.1)) l ∧ News h₀ L h (((ca, oca) :: (cd, ocd) :: (ta, ota) :: (td, otd) :: (pa, opa) :: (pd, opd) :: (xa, oxa) :: (xd, oxd) :: (ra, ora) :: (rd, ord) :: l2) ++ (src, o) :: rest) := by
  refine ⟨NewA.of2 D ?_ hl hn h1 h2, fun p hp => N p ?_⟩
  · simp only [List.cons_append, List.nil_append]
    exact .cons _ (.cons _ (.cons _ (.cons _ (List.Sublist.refl _))))
  · simp only [List.mem_append, List.mem_cons] at hp ⊢
    rcases hp with (hp | hp | hp | hp | hp | hp | hp | hp | hp | hp | hp) | hp | hp <;> simp [hp]
inductive PortP (w : World) (l : List (Addr × Obj)) (g : Obj → List (Addr × Obj)) (st : Bool) : Value → List (Addr × Obj) → Prop
  | mk (pa pd ra rd ta td ca cd xa xd va : Addr) (k kr kt kc : Nat → Tok) (u ur ut uc : Nat → Value) (k1 k2 k3 k4 tag tm the tdd : Tok) (l2 : List (Addr × Obj)) (X : Vec) (inf : Str) (ti : Tok) (left : Int) (tl : Tok) (pg pp ag ad dis : Bool) (ag' he' a' b' : Int) (ta' tb' : Tok) (n' : Nat) (hn : NewA ([ca, cd, ta, td, pa, pd, xa, xd, ra, rd] ++ l2.map (·.1)) l) (hi : inf = Str.ofString "received" ∨ inf = Str.ofString "received" ∨ inf = Str.ofString "mine") (hv : IsVec l2 va X) : PortP w l g st (.ref pa) (((ca, instObj 272 cd) :: (cd, dictOf (changeE w kc uc (.bool false) (.bool false) (.bool false)) 6) :: (ta, instObj 237 td) :: (td, dictOf (timersE w kt ut (.int left tl)) 8) :: (pa, instObj 321 pd) :: (pd, dictOf (portE w k u ra ta ca .none (.str inf ti) (.ref va) (.ref xa) (.bool pg) (.bool pp) (.bool ag) (.bool ad) (.bool false) (.bool true) (.bool dis)) 33) :: (xa, instObj 53 xd) :: (xd, dictOf (timesE w k1 k2 k3 k4 ag' tag 6 tm he' the 9 tdd) 4) :: (ra, instObj 202 rd) :: (rd, dictOf (rowE w kr ur (.bool st)) 5) :: l2) ++ g (srcO a' b' ta' tb' n'))
theorem PortP.ret {w : World} {l : List (Addr × Obj)} {g : Obj → List (Addr × Obj)} {st : Bool} {R : Value → List (Addr × Obj) → Prop} (k9 : ∀ (pa pd ra rd ta td ca cd xa xd va : Addr) (k kr kt kc : Nat → Tok) (u ur ut uc : Nat → Value) (k1 k2 k3 k4 tag tm the tdd : Tok) (l2 : List (Addr × Obj)) (X : Vec) (inf : Str) (ti : Tok) (left : Int) (tl : Tok) (pg pp ag ad dis : Bool) (ag' he' a' b' : Int) (ta' tb' : Tok) (n' : Nat) (hn : NewA ([ca, cd, ta, td, pa, pd, xa, xd, ra, rd] ++ l2.map (·.1)) l) (hi : inf = Str.ofString "received" ∨ inf = Str.ofString "received" ∨ inf = Str.ofString "mine") (hv : IsVec l2 va X), R (.ref pa) (((ca, instObj 272 cd) :: (cd, dictOf (changeE w kc uc (.bool false) (.bool false) (.bool false)) 6) :: (ta, instObj 237 td) :: (td, dictOf (timersE w kt ut (.int left tl)) 8) :: (pa, instObj 321 pd) :: (pd, dictOf (portE w k u ra ta ca .none (.str inf ti) (.ref va) (.ref xa) (.bool pg) (.bool pp) (.bool ag) (.bool ad) (.bool false) (.bool true) (.bool dis)) 33) :: (xa, instObj 53 xd) :: (xd, dictOf (timesE w k1 k2 k3 k4 ag' tag 6 tm he' the 9 tdd) 4) :: (ra, instObj 202 rd) :: (rd, dictOf (rowE w kr ur (.bool st)) 5) :: l2) ++ g (srcO a' b' ta' tb' n'))) : ∀ v9 l9, PortP w l g st v9 l9 → R v9 l9 := fun _ _ h9 => PortP.rec (motive := fun v9 l9 _ => R v9 l9) k9 h9
set_option maxHeartbeats 2000000 in
theorem port_c {prog : Program} (w : World) {l : List (Addr × Obj)} {g : Obj → List (Addr × Obj)} {src : Addr} {a b : Int} {ta tb : Tok} {n : Nat} {st : Bool} (U : UpdF src (srcO a b ta tb n) l g) :
    Con prog w 7 386 [.ref src, .bool st] l (PortP w l g st) := by
  unfold Con
  intro mean mg mb dp un gd cn cs ca ccd cl outer A₀ base h₀ L m s Q E B F X N T hk hd hu hret
  obtain ⟨rest, hin, hout, D, _, hl⟩ := UpdF.front (h₀ := h₀) (L := L) U
  replace N := hin _ N
  refine wpAny_call ?_
  k_dflt ktr_enter
  (repeat' (first | (k_unfold; (try dsimp only)) | ((with_reducible show wpAny _ _ (call (Value.ref _) _) _ _ _); first | ((with_reducible show wpAny _ _ (call (Value.ref 339) _) _ _ _); refine' con_use (take_c _ ?U ?ht ?ht2) ?k1 ?k2 ?k3 ?k4 ?k5 ?k6 ?k7 ?k8 ?_; (case k1 => k_asm); (case k2 => k_asm); (case k3 => k_asm); (case k4 => k_asm); (case k5 => k_asm); (case U => k_updF); (case ht => omega); (case ht2 => omega); (case k6 => first | exact rfl | assumption); (case k7 => ktr_room); (case k8 => ktr_units); refine' TakeP.ret ?_; intro d' td' a' b' ta' tb' n' lo' hi'; intro h' tk' F' N'; (try dsimp only at N'); (try k_sweep)) | ((with_reducible show wpAny _ _ (call (Value.ref 346) _) _ _ _); refine' con_use (one_c _ ?U ?hm ?ht ?ht2) ?k1 ?k2 ?k3 ?k4 ?k5 ?k6 ?k7 ?k8 ?_; (case k1 => k_asm); (case k2 => k_asm); (case k3 => k_asm); (case k4 => k_asm); (case k5 => k_asm); (case U => k_updF); (case hm => (intro o9; (try dsimp only); k_mem)); (case ht => exact Nat.le_of_ble_eq_true rfl); (case ht2 => exact Nat.le_of_ble_eq_true rfl); (case k6 => first | exact rfl | assumption); (case k7 => ktr_room); (case k8 => ktr_units); refine' OneP.ret ?_; (first | refine' mem_int4 ?_ | refine' mem_int2 ?_ | refine' mem_str3 ?_ | refine' mem_str4 ?_ | refine' mem_str5 ?_); intro x' t' hx' a' b' ta' tb' n'; intro h' tk' F' N'; (try dsimp only at N'); (try k_sweep)) | ((with_reducible show wpAny _ _ (call (Value.ref 353) _) _ _ _); refine' con_use (vector_c _ ?U) ?k1 ?k2 ?k3 ?k4 ?k5 ?k6 ?k7 ?k8 ?_; (case k1 => k_asm); (case k2 => k_asm); (case k3 => k_asm); (case k4 => k_asm); (case k5 => k_asm); (case U => k_updF); (case k6 => first | exact rfl | assumption); (case k7 => ktr_room); (case k8 => ktr_units); refine' VectorP.ret ?_; intro av l2 X a' b' ta' tb' n' hn' hi'; intro h' tk' F' N'; (with_reducible rename Apart _ _ => hD); refine' rot_use (bs := []) (E := []) hD hn' rfl rfl (by k_mem) N' ?_; clear hD N'; intro hD2 N'; dsimp only [List.cons_append, List.nil_append] at N' hD2; (try dsimp only at N'); (try k_sweep)) | ((with_reducible show wpAny _ _ (call (Value.ref 379) _) _ _ _); refine' con_use (times_c _ ?U) ?k1 ?k2 ?k3 ?k4 ?k5 ?k6 ?k7 ?k8 ?_; (case k1 => k_asm); (case k2 => k_asm); (case k3 => k_asm); (case k4 => k_asm); (case k5 => k_asm); (case U => k_updF); (case k6 => first | exact rfl | assumption); (case k7 => ktr_room); (case k8 => ktr_units); refine' TimesP.ret ?_; intro x d k1 k2 k3 k4 ag tag tm he the td a' b' ta' tb' n' hn'; (with_reducible rename Apart _ _ => hD); (have hD2 := Apart.more hD hn' rfl rfl); clear hD hn'; dsimp only [List.cons_append, List.nil_append] at hD2; intro h' tk' F' N'; (try dsimp only at N'); (try k_sweep)) | ((with_reducible show wpAny _ _ (call (Value.ref 321) _) _ _ _); refine' con_use (mkport_c _ ?h1 ?h2) ?k1 ?k2 ?k3 ?k4 ?k5 ?k6 ?k7 ?k8 ?_; (case k1 => k_asm); (case k2 => k_asm); (case k3 => k_asm); (case k4 => k_asm); (case k5 => k_asm); (case h1 => k_mem); (case h2 => k_mem); (case k6 => first | exact rfl | assumption); (case k7 => ktr_room); (case k8 => ktr_units); refine' MkP.ret ?_; intro pa pd ta td ca cd k kt kc u ut uc ti tl hn'; (with_reducible rename Apart _ _ => hD); (have hD2 := Apart.more hD hn' rfl rfl); clear hD hn'; dsimp only [List.cons_append, List.nil_append] at hD2; intro h' tk' F' N'; (try dsimp only at N'); (try k_sweep)) | ((with_reducible show wpAny _ _ (call (Value.ref 202) _) _ _ _); refine' con_use (row_c _) ?k1 ?k2 ?k3 ?k4 ?k5 ?k6 ?k7 ?k8 ?_; (case k1 => k_asm); (case k2 => k_asm); (case k3 => k_asm); (case k4 => k_asm); (case k5 => k_asm); (case k6 => first | exact rfl | assumption); (case k7 => ktr_room); (case k8 => ktr_units); refine' RowP.ret ?_; intro x d k u hn'; (with_reducible rename Apart _ _ => hD); (have hD2 := Apart.more hD hn' rfl rfl); clear hD hn'; dsimp only [List.cons_append, List.nil_append] at hD2; intro h' tk' F' N'; (try dsimp only at N'); (try k_sweep))) | walk1 | (dsimp only; walk1) | (leave1; (try dsimp only)) | fail "no step"))
  (with_reducible rename Apart _ _ => hD)
  (with_reducible rename NewA _ _ => hn)
  (with_reducible rename News _ _ _ _ => N')
  (with_reducible rename IsVec _ _ _ => hv)
  rename (_ = _ ∨ _ = _ ∨ _ = _) => hi
  have e := port_end hD N' hl hn (by k_mem) (by k_mem)
  refine' hret _ _ _ _ (.mk _ _ _ _ _ _ _ _ _ _ _ _ _ _ _ _ _ _ _ _ _ _ _ _ _ _ _ _ _ _ _ _ _ _ _ _ _ _ _ _ _ _ _ _ _ e.1 hi hv) ?fr (hout _ _ _ e.2)
  case fr => k_asm

theorem upd_dict {prog : Program} {w : World} {A : Around} {E : Value → Shared → Prop} {s : Shared} {h₀ : Heap} {L : Addr} {m : Str → Option Value} {news : List (Addr × Obj)} {g : Obj → List (Addr × Obj)} {o ob : Obj} {d o₂ : Addr} {K : Type} [DecidableEq K] {knd : KeyKind prog w K} {kvs more : List (K × Value)} {Q : Value → Shared → Prop}
    (F : Fr h₀ L s.heap m) (N : News h₀ L s.heap news) (U : UpdF d o news g) (hd : o.IsDictOf knd kvs) (hm2 : (o₂, ob) ∈ news) (hd2 : ob.IsDictOf knd more) (lo : (o₂ == sysModules) = false) (hne : d ≠ o₂) (hsz : kvs.length + more.length ≤ sizeLine)
    (h : ∀ h' o', Fr h₀ L h' m → News h₀ L h' (g o') → o'.IsDictOf knd (merged kvs more) → Q .none { s with heap := h' }) :
    wpAny (model prog w) A (call (.builtin "dict.update") [.ref d, .ref o₂]) Q E s := by
  obtain ⟨pre, post, rfl, hg, a, b⟩ := U.split
  have hm := N (d, o) (List.mem_append_right _ (.head _))
  have hD : s.heap.DictOf knd d kvs := Heap.dictOf_iff.mpr ⟨o, hm.1, hd⟩
  have hD₂ : s.heap.DictOf knd o₂ more := Heap.dictOf_iff.mpr ⟨ob, (N _ hm2).1, hd2⟩
  refine call_meetsIn PySem.F.slot_dict_update hD.typeIs PySem.F.entry_dict_update (PySem.F.args_dict_update_2 _ _) (meets_dict_update knd d o₂ hne lo)
    ⟨kvs, more, hD, hD₂, hsz, fun h' hmm _ hs => ?_⟩
  obtain ⟨o', ho', hd'⟩ := Heap.dictOf_iff.mp hmm
  exact h h' o' (F.change hs hm.2.1 hm.2.2) (hg o' ▸ N.setIn a b hs ho') hd'
local macro_rules | `(tactic| k_handed) => `(tactic| assumption)
abbrev wordsL (pp pg ag ad dis hea : Bool) (told : Value) (inf : Str) (ti : Tok) (ack noti : Bool) (left : Int) (tl : Tok) (va tm an : Addr) : List (Str × Value) := [(Str.ofString "proposed", .bool pp), (Str.ofString "proposing", .bool pg), (Str.ofString "agree", .bool ag), (Str.ofString "agreed", .bool ad), (Str.ofString "disputed", .bool dis), (Str.ofString "heard", .bool hea), (Str.ofString "told", told), (Str.ofString "info", .str inf ti), (Str.ofString "ack", .bool ack), (Str.ofString "noticed", .bool noti), (Str.ofString "left", .int left tl), (Str.ofString "vector", .ref va), (Str.ofString "times", .ref tm), (Str.ofString "anew", .ref an)]
inductive WordsP (prog : Program) (w : World) (l : List (Addr × Obj)) (pp pg ag ad dis hea : Bool) (told : Value) (inf : Str) (ti : Tok) (ack noti : Bool) (left : Int) (tl : Tok) (va : Addr) (rs sel : Bool) (ag' m' he' : Int) (t1 t2 t3 t4 : Tok) : Value → List (Addr × Obj) → Prop
  | mk (wd tm an : Addr) (o' : Obj) (hn : NewA [an, tm, wd] l) (lo : (wd == sysModules) = false) (hd : o'.IsDictOf (PySem.strKind prog w) (wordsL pp pg ag ad dis hea told inf ti ack noti left tl va tm an)) : WordsP prog w l pp pg ag ad dis hea told inf ti ack noti left tl va rs sel ag' m' he' t1 t2 t3 t4 (.ref wd) ((an, tupO [.bool rs, .bool sel]) :: (tm, tupO [.int ag' t1, .int m' t2, .int he' t3, .int 9 t4]) :: (wd, o') :: l)
theorem WordsP.ret {prog : Program} {w : World} {l : List (Addr × Obj)} {pp pg ag ad dis hea : Bool} {told : Value} {inf : Str} {ti : Tok} {ack noti : Bool} {left : Int} {tl : Tok} {va : Addr} {rs sel : Bool} {ag' m' he' : Int} {t1 t2 t3 t4 : Tok} {R : Value → List (Addr × Obj) → Prop} (k9 : ∀ (wd tm an : Addr) (o' : Obj) (hn : NewA [an, tm, wd] l) (lo : (wd == sysModules) = false) (hd : o'.IsDictOf (PySem.strKind prog w) (wordsL pp pg ag ad dis hea told inf ti ack noti left tl va tm an)), R (.ref wd) ((an, tupO [.bool rs, .bool sel]) :: (tm, tupO [.int ag' t1, .int m' t2, .int he' t3, .int 9 t4]) :: (wd, o') :: l)) : ∀ v9 l9, WordsP prog w l pp pg ag ad dis hea told inf ti ack noti left tl va rs sel ag' m' he' t1 t2 t3 t4 v9 l9 → R v9 l9 := fun _ _ h9 => WordsP.rec (motive := fun v9 l9 _ => R v9 l9) k9 h9
set_option maxHeartbeats 2000000 in
theorem words_c {prog : Program} (w : World) {l : List (Addr × Obj)} {pa pd ra ta td ca cd va xa xd : Addr} {told : Value} {k kt kc : Nat → Tok} {u ut uc : Nat → Value} {inf : Str} {ti tl : Tok} {pg pp ag ad rs sel dis hea ack noti : Bool} {left ag' m' he' : Int} {k1 k2 k3 k4 t1 t2 t3 t4 : Tok}
    (hp : (pa, instObj 321 pd) ∈ l) (hpd : (pd, dictOf (portE w k u ra ta ca told (.str inf ti) (.ref va) (.ref xa) (.bool pg) (.bool pp) (.bool ag) (.bool ad) (.bool rs) (.bool sel) (.bool dis)) 33) ∈ l)
    (hc : (ca, instObj 272 cd) ∈ l) (hcd : (cd, dictOf (changeE w kc uc (.bool hea) (.bool ack) (.bool noti)) 6) ∈ l)
    (ht : (ta, instObj 237 td) ∈ l) (htd : (td, dictOf (timersE w kt ut (.int left tl)) 8) ∈ l)
    (hx : (xa, instObj 53 xd) ∈ l) (hxd : (xd, dictOf (timesE w k1 k2 k3 k4 ag' t1 m' t2 he' t3 9 t4) 4) ∈ l) (hto : handedIn told = true) :
    Con prog w 3 393 [.ref pa] l (WordsP prog w l pp pg ag ad dis hea told inf ti ack noti left tl va rs sel ag' m' he' t1 t2 t3 t4) := by
  unfold Con
  intro mean mg mb dp un gd cn cs ca' ccd cl outer A₀ base h₀ L m s Q E B F X N T hk hd hu hret
  have D := Apart.nil (rest := l)
  refine wpAny_call ?_
  k_dflt ktr_enter
  (repeat' (first | (k_unfold; (try dsimp only)) | ((with_reducible show wpAny _ _ (getMethod (Value.ref _) (Str.ofString "update") _) _ _ _); k_dflt (refine' kob_method (knd := PySem.strKind _ _) PySem.F.slot_dict_update PySem.F.type_dict_update ?N ?hp ?hd ?_; (case N => k_asm); (case hp => k_mem); (case hd => k_asm))) | ((with_reducible show wpAny _ _ (callWith _ (Value.builtin "dict.update") _ _ _) _ _ _); refine callWith_method1 ?_) | ((with_reducible show wpAny _ _ (call (Value.builtin "dict.update") _) _ _ _); k_dflt (refine' upd_dict (knd := PySem.strKind _ _) ?F ?N ?U ?hd ?hm2 ?hd2 ?lo ?hne ?hsz ?_; (case F => k_asm); (case N => k_asm); (case U => k_updF); (case hd => k_asm); (case hm2 => k_mem); (case hd2 => k_asm); (case lo => k_asm); (case hne => ((with_reducible rename Apart _ _ => hD); have h9 := hD.1; intro e9; simp [e9] at h9)); (case hsz => kob_size)); intro h' o' F' N' hd'; (try kob_lit); (try dsimp only at N')) | walk1 | (dsimp only; walk1) | (leave1; (try dsimp only)) | fail "no step"))
  (with_reducible rename Apart _ _ => hD)
  refine' hret _ _ _ _ (.mk _ _ _ _ (NewA.of0 hD ?sb) ?lo ?hd9) ?fr (News.subl ?n0 ?n1)
  case fr => k_asm
  case n0 => k_asm
  case n1 => k_mem
  case lo => k_asm
  case hd9 => k_asm
  case sb => k_mem

theorem foldF (p : Int → Prop) [DecidablePred p] : ∀ (ks acc : List Int), List.foldl (fun l' k' => if p k' then l' ++ [k'] else l') acc ks = acc ++ ks.filter (fun k => decide (p k))
  | [], acc => by simp
  | k :: ks, acc => by
    rw [List.foldl_cons, foldF p ks]
    by_cases h : p k
    · rw [if_pos h, List.filter_cons_of_pos (by simpa using h), List.append_assoc]; rfl
    · rw [if_neg h, List.filter_cons_of_neg (by simpa using h)]
abbrev dfs (xs ys : List Int) : List Int := List.foldl (fun l' k' => if ¬xs.getD k'.toNat 0 = ys.getD k'.toNat 0 then l' ++ [k'] else l') [] (rangeKs 0 ((7 : Int) - 0).toNat)
theorem dfs_is (xs ys : List Int) : dfs xs ys = [0, 1, 2, 3, 4, 5, 6].filter (fun k : Int => decide (¬xs.getD k.toNat 0 = ys.getD k.toNat 0)) := by
  unfold dfs
  rw [foldF (fun k' : Int => ¬xs.getD k'.toNat 0 = ys.getD k'.toNat 0), List.nil_append]
  rfl
noncomputable def dfl : Int → List Int → List Int → List Int
  | o, a :: as, b :: bs => if a = b then dfl (o + 1) as bs else o :: dfl (o + 1) as bs
  | _, _, _ => []
theorem dfl_spec : ∀ (as bs : List Int) (o : Int), as.length = bs.length → (dfl o as bs = [] ∧ lexL as bs = false) ∨ ∃ (i : Nat) (r : List Int), dfl o as bs = (o + i) :: r ∧ i < as.length ∧ lexL as bs = decide (as.getD i 0 < bs.getD i 0)
  | [], [], o, _ => .inl ⟨rfl, rfl⟩
  | a :: as, b :: bs, o, h => by
    by_cases e : a = b
    · have ih := dfl_spec as bs (o + 1) (Nat.succ.inj h)
      rw [show dfl o (a :: as) (b :: bs) = dfl (o + 1) as bs from if_pos e, show lexL (a :: as) (b :: bs) = lexL as bs from if_pos e]
      rcases ih with ih | ⟨i, r, h1, h2, h3⟩
      · exact .inl ih
      · refine .inr ⟨i + 1, r, ?_, Nat.succ_lt_succ h2, h3⟩
        rw [h1]
        exact congrArg (· :: r) (by omega)
    · refine .inr ⟨0, dfl (o + 1) as bs, ?_, Nat.succ_pos _, if_neg e⟩
      rw [show dfl o (a :: as) (b :: bs) = o :: dfl (o + 1) as bs from if_neg e]
      exact congrArg (· :: _) (by omega)
theorem fstep {x y k : Int} {l : List Int} : (if decide (¬x = y) = true then k :: l else l) = (if x = y then l else k :: l) := by
  by_cases h : x = y <;> simp [h]
theorem dfs_dfl (X Y : Vec) : dfs X.ls Y.ls = dfl 0 X.ls Y.ls := by
  rw [dfs_is]
  simp only [List.filter_cons, List.filter_nil, fstep]
  rfl
theorem dfs_spec (X Y : Vec) : (dfs X.ls Y.ls = [] ∧ vlt X Y = false) ∨ (dfs X.ls Y.ls ≠ [] ∧ 0 ≤ (dfs X.ls Y.ls).getD 0 0 ∧ (dfs X.ls Y.ls).getD 0 0 < 7 ∧ vlt X Y = decide (X.ls.getD ((dfs X.ls Y.ls).getD 0 0).toNat 0 < Y.ls.getD ((dfs X.ls Y.ls).getD 0 0).toNat 0)) := by
  rw [dfs_dfl]
  rcases dfl_spec X.ls Y.ls 0 rfl with h | ⟨i, r, h1, h2, h3⟩
  · exact .inl h
  · have h2' : i < 7 := h2
    refine .inr ⟨by rw [h1]; exact List.cons_ne_nil _ _, ?_, ?_, ?_⟩
    · rw [h1]; show (0 : Int) ≤ 0 + i; omega
    · rw [h1]; show (0 : Int) + i < 7; omega
    · rw [h1]
      show _ = decide (X.ls.getD ((0 : Int) + i).toNat 0 < Y.ls.getD ((0 : Int) + i).toNat 0)
      rw [show ((0 : Int) + i).toNat = i by omega]
      exact h3
theorem item_hd {prog : Program} {w : World} {A : Around} {E : Value → Shared → Prop} {s : Shared} {value slice : PySem.Expr} {l : Addr} {vs : List Value} {ns : List Int} {u : Tok} {Q : Value → Shared → Prop} (hi : IntsAre vs ns) (hl : s.heap.IsList l vs.toArray) (h1 : ns ≠ []) (h : ∀ t, Q (.int (ns.getD 0 0) t) s)
    (hs : subscripted slice false (.ref l) (.int 0 u) = operate [.ref l, .int 0 u] (getItem (.ref l) (.int 0 u)) := by with_unfolding_all rfl) :
    wpAny (model prog w) A (subscriptTail value slice (.ref l) (.int 0 u)) Q E s := by
  cases hi with
  | nil => exact absurd rfl h1
  | cons x t hi => exact item_litK (v := .int x t) hl (Int.le_refl 0) (by decide) rfl (h t) hs
theorem dfs_lo {X Y : Vec} (h : decide (dfs X.ls Y.ls = []) = false) : 0 ≤ (dfs X.ls Y.ls).getD 0 0 := by
  rcases dfs_spec X Y with e | e
  · exact absurd e.1 (of_decide_eq_false h)
  · exact e.2.1
theorem dfs_hi {X Y : Vec} (h : decide (dfs X.ls Y.ls = []) = false) : (dfs X.ls Y.ls).getD 0 0 < 7 := by
  rcases dfs_spec X Y with e | e
  · exact absurd e.1 (of_decide_eq_false h)
  · exact e.2.2.1
theorem dfs_e1 {X Y : Vec} (h : decide (dfs X.ls Y.ls = []) = true) : (!decide (dfs X.ls Y.ls = [])) = vlt X Y := by
  rcases dfs_spec X Y with e | e
  · rw [h, e.2]; rfl
  · exact absurd (of_decide_eq_true h) e.1
theorem dfs_e2 {X Y : Vec} (h : decide (dfs X.ls Y.ls = []) = false) : decide (X.ls.getD ((dfs X.ls Y.ls).getD 0 0).toNat 0 < Y.ls.getD ((dfs X.ls Y.ls).getD 0 0).toNat 0) = vlt X Y := by
  rcases dfs_spec X Y with e | e
  · exact absurd e.1 (of_decide_eq_false h)
  · exact e.2.2.2.symm

section
theorem ints7 {a0 a1 a2 a3 a4 a5 a6 : Int} {t0 t1 t2 t3 t4 t5 t6 : Tok} : IntsAre [.int a0 t0, .int a1 t1, .int a2 t2, .int a3 t3, .int a4 t4, .int a5 t5, .int a6 t6] [a0, a1, a2, a3, a4, a5, a6] := .cons _ _ (.cons _ _ (.cons _ _ (.cons _ _ (.cons _ _ (.cons _ _ (.cons _ _ .nil))))))
local macro_rules | `(tactic| k_all) => `(tactic| (intro p9 hp9; rename (∀ p : PySem.Addr × PySem.Obj, p ∈ _ → p.1 < _) => hl9; have hq9 := ltN (hl9 p9 hp9); k_ne))
theorem lt7 {k a0 a1 a2 a3 a4 a5 a6 : Int} (h : k < 0 + (((7 : Int) - 0).toNat : Int)) : k < (([a0, a1, a2, a3, a4, a5, a6] : List Int).length : Int) := h
set_option maxHeartbeats 8000000 in
theorem less_c {prog : Program} (w : World) {l : List (Addr × Obj)} {a b : Addr} {X Y : Vec} (hx : IsVec l a X) (hy : IsVec l b Y) :
    Con prog w 10 365 [.ref a, .ref b] l (Is (.bool (vlt X Y)) l) := by
  unfold Con
  intro mean mg mb dp un gd cn cs ca ccd cl outer A₀ base h₀ L m s Q E B F X N T hk hd hu hret
  have hx2 := hx
  have hy2 := hy
  obtain ⟨ar, ab, ap, tc, tr0, tr1, tb0, tb1, tp0, tp1, h1, h2, h3, h4⟩ := hx2
  obtain ⟨ar', ab', ap', tc', tr0', tr1', tb0', tb1', tp0', tp1', h1', h2', h3', h4'⟩ := hy2
  refine wpAny_call ?_
  k_dflt (refine' code_defC ?k1 ?k2 ?k3 ?k4 ?k5 ?kA ?kF ?kK ?k6 ?k7 ?k8 ?k9 ?kB ?kD ?_ ?c2 ?c3 ?c4; (case kA => exact rfl); (case kF => exact rfl); (case kK => assumption); (case k1 => k_asm); (case k2 => k_asm); (case k3 => k_asm); (case k4 => k_asm); (case k5 => k_asm); (case k6 => k_is); (case k7 => k_is); (case k8 => ktr_room); (case k9 => exact BindsTo.of_eq rfl); (case kB => exact rfl); (case kD => decide +kernel); (case c2 => exact rfl); (case c3 => exact rfl); (case c4 => exact rfl); k_whole; intro g' L' h' tk' cells' FG' F' N' Y' B' X' T' l1; (try k_lt l1); k_cells Y'; (try simp only [List.cons_append, List.nil_append] at N'); (try dsimp only); (try k_fold))
  (repeat' (first | (k_unfold; (try dsimp only)) | ((with_reducible show wpAny _ _ (compareOp CmpOp.NotEq (Value.ref _) (Value.ref _)) _ _ _); refine' ke_ne_ints ?k1 ?k2 ?k3 ?k4 ?k5 ?_; (case k1 => exact isListOf (by k_asm) (by k_mem)); (case k2 => exact isListOf (by k_asm) (by k_mem)); (case k3 => with_reducible assumption); (case k4 => exact IntsAre.nil); (case k5 => ktr_units); k_whole) | ((with_reducible show wpAny _ _ (subscriptTail _ _ (Value.ref _) (Value.int 0 _)) _ _ _); k_dflt (refine' item_hd ?k1 ?k2 ?k3 ?_; (case k2 => exact isListOf (by k_asm) (by k_mem)); (case k1 => with_reducible assumption); (case k3 => exact of_decide_eq_false (by assumption)); k_whole); intro t') | ((with_reducible show wpAny _ _ (subscriptTail _ _ (Value.ref _) (Value.int _ _)) _ _ _); k_dflt (refine' item_ls ?k1 ?k2 ?k3 ?k4 ?k5 ?_ ?k6; (case k2 => exact isListOf (by k_asm) (by k_mem)); (case k1 => exact ints7); (case k3 => exact dfs_lo (by assumption)); (case k4 => exact dfs_hi (by assumption)); (case k5 => exact Nat.le_of_ble_eq_true rfl); (case k6 => with_unfolding_all rfl); k_whole); intro t') | ((with_reducible show wpAny _ _ (subscriptTail _ _ (Value.ref _) (Value.int _ _)) _ _ _); k_dflt (refine' item_ls ?k1 ?k2 ?k3 ?k4 ?k5 ?_ ?k6; (case k2 => exact isListOf (by k_asm) (by k_mem)); (case k1 => first | exact ints7 | assumption); (case k3 => first | assumption | omega); (case k4 => exact lt7 (by with_reducible assumption)); (case k5 => exact Nat.le_of_ble_eq_true rfl); (case k6 => with_unfolding_all rfl); k_whole); intro t') | walk1 | (dsimp only; walk1) | (leave1; (try dsimp only)) | fail "no step"))
  all_goals
    first
      | refine' hret _ _ _ _ (Is.of (congrArg Value.bool (dfs_e1 (by assumption))) rfl) ?fr ?nn
      | refine' hret _ _ _ _ (Is.of (congrArg Value.bool (dfs_e2 (by assumption))) rfl) ?fr ?nn
    case fr => k_asm
    case nn =>
      refine' News.subl ?n0 ?n1
      case n0 => k_asm
      case n1 => k_mem

end

set_option maxHeartbeats 2000000 in
theorem rp_c {prog : Program} (w : World) {l : List (Addr × Obj)} {g : Obj → List (Addr × Obj)} {pa pd ra ta ca ba bd : Addr} {k kb : Nat → Tok} {u ub : Nat → Value} {told inf vec tim pg ag ad rs sel dis kin bv bt chg cack agr rol lea : Value} {pp ip : Bool} (U : UpdF pd (dictOf (portE w k u ra ta ca told inf vec tim pg (.bool pp) ag ad rs sel dis) 33) l g) (h1 : ∀ o', (pa, instObj 321 pd) ∈ g o') (h2 : ∀ o', (ba, instObj 89 bd) ∈ g o') (h3 : ∀ o', (bd, dictOf (bpduE w kb ub kin bv bt chg cack (.bool ip) agr rol lea) 12) ∈ g o') :
    Con prog w 3 135 [.ref pa, .ref ba] l (Is .none (g (dictOf (portE w k u ra ta ca told inf vec tim pg (.bool (pp || ip)) ag ad rs sel dis) 33))) := by
  unfold Con
  intro mean mg mb dp un gd cn cs ca' ccd cl outer A₀ base h₀ L m s Q E B F X N T hk hd hu hret
  obtain ⟨rest, hin, hout, D, hr, hl⟩ := UpdF.front (h₀ := h₀) (L := L) U
  replace h1 := hr _ h1
  replace h2 := hr _ h2
  replace h3 := hr _ h3
  replace N := hin _ N
  refine wpAny_call ?_
  k_dflt ktr_enter
  (repeat' (first | (k_unfold; (try dsimp only)) | walk1 | (dsimp only; walk1) | (leave1; (try dsimp only)) | fail "no step"))
  all_goals
    refine' hret _ _ _ _ (Is.of rfl ?e) ?fr (hout _ [] _ ?nn)
    case nn => k_asm
    case fr => k_asm
    case e =>
      clear hret hout hin hr hl
      refine congrArg g ?_
      simp only [*, Bool.and_true, Bool.true_and, Bool.and_false, Bool.false_and, Bool.or_true, Bool.true_or, Bool.or_false, Bool.false_or, Bool.not_true, Bool.not_false]
set_option maxHeartbeats 2000000 in
theorem ra_c {prog : Program} (w : World) {l : List (Addr × Obj)} {g : Obj → List (Addr × Obj)} {pa pd ra rd ta ca ba bd : Addr} {k kr kb : Nat → Tok} {u ur ub : Nat → Value} {told inf vec tim pp ag ad rs sel dis bv bt chg cack pro rol lea : Value} {pg st ia : Bool} {kin : Str} {tk : Tok} (U : UpdF pd (dictOf (portE w k u ra ta ca told inf vec tim (.bool pg) pp ag ad rs sel dis) 33) l g) (h1 : ∀ o', (pa, instObj 321 pd) ∈ g o') (h2 : ∀ o', (ba, instObj 89 bd) ∈ g o') (h3 : ∀ o', (bd, dictOf (bpduE w kb ub (.str kin tk) bv bt chg cack pro (.bool ia) rol lea) 12) ∈ g o') (h4 : ∀ o', (ra, instObj 202 rd) ∈ g o') (h5 : ∀ o', (rd, dictOf (rowE w kr ur (.bool st)) 5) ∈ g o') :
    Con prog w 3 142 [.ref pa, .ref ba] l (Is .none (g (dictOf (portE w k u ra ta ca told inf vec tim (.bool (pg && !(st && (kin == Str.ofString "rapid") && ia))) pp ag (.bool (st && (kin == Str.ofString "rapid") && ia)) rs sel dis) 33))) := by
  unfold Con
  intro mean mg mb dp un gd cn cs ca' ccd cl outer A₀ base h₀ L m s Q E B F X N T hk hd hu hret
  obtain ⟨rest, hin, hout, D, hr, hl⟩ := UpdF.front (h₀ := h₀) (L := L) U
  replace h1 := hr _ h1
  replace h2 := hr _ h2
  replace h3 := hr _ h3
  replace h4 := hr _ h4
  replace h5 := hr _ h5
  replace N := hin _ N
  refine wpAny_call ?_
  k_dflt ktr_enter
  (repeat' (first | (k_unfold; (try dsimp only)) | walk1 | (dsimp only; walk1) | (leave1; (try dsimp only)) | fail "no step"))
  all_goals
    refine' hret _ _ _ _ (Is.of rfl ?e) ?fr (hout _ [] _ ?nn)
    case nn => k_asm
    case fr => k_asm
    case e =>
      clear hret hout hin hr hl
      refine congrArg g ?_
      simp only [*, Bool.and_true, Bool.true_and, Bool.and_false, Bool.false_and, Bool.or_true, Bool.true_or, Bool.or_false, Bool.false_or, Bool.not_true, Bool.not_false]
set_option maxHeartbeats 2000000 in
theorem rd_c {prog : Program} (w : World) {l : List (Addr × Obj)} {g : Obj → List (Addr × Obj)} {pa pd ra ta ca ba bd : Addr} {k kb : Nat → Tok} {u ub : Nat → Value} {told inf vec tim pg pp ag rs sel bv bt chg cack pro agr rol : Value} {ad dis il : Bool} {kin : Str} {tk : Tok} (U : UpdF pd (dictOf (portE w k u ra ta ca told inf vec tim pg pp ag (.bool ad) rs sel (.bool dis)) 33) l g) (h1 : ∀ o', (pa, instObj 321 pd) ∈ g o') (h2 : ∀ o', (ba, instObj 89 bd) ∈ g o') (h3 : ∀ o', (bd, dictOf (bpduE w kb ub (.str kin tk) bv bt chg cack pro agr rol (.bool il)) 12) ∈ g o') :
    Con prog w 3 149 [.ref pa, .ref ba] l (Is .none (g (dictOf (portE w k u ra ta ca told inf vec tim pg pp ag (.bool (ad && !((kin == Str.ofString "rapid") && il))) rs sel (.bool (dis || ((kin == Str.ofString "rapid") && il)))) 33))) := by
  unfold Con
  intro mean mg mb dp un gd cn cs ca' ccd cl outer A₀ base h₀ L m s Q E B F X N T hk hd hu hret
  obtain ⟨rest, hin, hout, D, hr, hl⟩ := UpdF.front (h₀ := h₀) (L := L) U
  replace h1 := hr _ h1
  replace h2 := hr _ h2
  replace h3 := hr _ h3
  replace N := hin _ N
  refine wpAny_call ?_
  k_dflt ktr_enter
  (repeat' (first | (k_unfold; (try dsimp only)) | walk1 | (dsimp only; walk1) | (leave1; (try dsimp only)) | fail "no step"))
  all_goals
    refine' hret _ _ _ _ (Is.of rfl ?e) ?fr (hout _ [] _ ?nn)
    case nn => k_asm
    case fr => k_asm
    case e =>
      clear hret hout hin hr hl
      refine congrArg g ?_
      simp only [*, Bool.and_true, Bool.true_and, Bool.and_false, Bool.false_and, Bool.or_true, Bool.true_or, Bool.or_false, Bool.false_or, Bool.not_true, Bool.not_false]
set_option maxHeartbeats 2000000 in
theorem rc_c {prog : Program} (w : World) {l : List (Addr × Obj)} {g : Obj → List (Addr × Obj)} {pa pd ra ta ca cd ba bd : Addr} {k kc kb : Nat → Tok} {u uc ub : Nat → Value} {told inf vec tim pg pp ag ad rs sel dis kin bv bt pro agr rol lea noti : Value} {hea ack ic ik : Bool} (U : UpdF cd (dictOf (changeE w kc uc (.bool hea) (.bool ack) noti) 6) l g) (h1 : ∀ o', (pa, instObj 321 pd) ∈ g o') (h2 : ∀ o', (ba, instObj 89 bd) ∈ g o') (h3 : ∀ o', (bd, dictOf (bpduE w kb ub kin bv bt (.bool ic) (.bool ik) pro agr rol lea) 12) ∈ g o') (h4 : ∀ o', (pd, dictOf (portE w k u ra ta ca told inf vec tim pg pp ag ad rs sel dis) 33) ∈ g o') (h5 : ∀ o', (ca, instObj 272 cd) ∈ g o') :
    Con prog w 3 156 [.ref pa, .ref ba] l (Is .none (g (dictOf (changeE w kc uc (.bool (hea || ic)) (.bool (ack || ik)) noti) 6))) := by
  unfold Con
  intro mean mg mb dp un gd cn cs ca' ccd cl outer A₀ base h₀ L m s Q E B F X N T hk hd hu hret
  obtain ⟨rest, hin, hout, D, hr, hl⟩ := UpdF.front (h₀ := h₀) (L := L) U
  replace h1 := hr _ h1
  replace h2 := hr _ h2
  replace h3 := hr _ h3
  replace h4 := hr _ h4
  replace h5 := hr _ h5
  replace N := hin _ N
  refine wpAny_call ?_
  k_dflt ktr_enter
  (repeat' (first | (k_unfold; (try dsimp only)) | walk1 | (dsimp only; walk1) | (leave1; (try dsimp only)) | fail "no step"))
  all_goals
    refine' hret _ _ _ _ (Is.of rfl ?e) ?fr (hout _ [] _ ?nn)
    case nn => k_asm
    case fr => k_asm
    case e =>
      clear hret hout hin hr hl
      refine congrArg g ?_
      simp only [*, Bool.and_true, Bool.true_and, Bool.and_false, Bool.false_and, Bool.or_true, Bool.true_or, Bool.or_false, Bool.false_or, Bool.not_true, Bool.not_false]
inductive HoP (w : World) (kt : Nat → Tok) (ut : Nat → Value) (g : Obj → List (Addr × Obj)) (x : Int) : Value → List (Addr × Obj) → Prop
  | mk (tl : Tok) : HoP w kt ut g x .none (g (dictOf (timersE w kt ut (.int x tl)) 8))
theorem HoP.ret {w : World} {kt : Nat → Tok} {ut : Nat → Value} {g : Obj → List (Addr × Obj)} {x : Int} {R : Value → List (Addr × Obj) → Prop} (k9 : ∀ (tl : Tok), R .none (g (dictOf (timersE w kt ut (.int x tl)) 8))) : ∀ v9 l9, HoP w kt ut g x v9 l9 → R v9 l9 := fun _ _ h9 => HoP.rec (motive := fun v9 l9 _ => R v9 l9) k9 h9
theorem HoP.of {w : World} {kt : Nat → Tok} {ut : Nat → Value} {g : Obj → List (Addr × Obj)} {x y : Int} {tl : Tok} (e : y = x) : HoP w kt ut g x .none (g (dictOf (timersE w kt ut (.int y tl)) 8)) := e ▸ .mk tl
set_option maxHeartbeats 2000000 in
theorem ho_c {prog : Program} (w : World) {l : List (Addr × Obj)} {g : Obj → List (Addr × Obj)} {pa pd ra ta td ca xa xd : Addr} {k kt : Nat → Tok} {u ut : Nat → Value} {told inf vec pg pp ag ad rs sel dis lft : Value} {ag' he' : Int} {k1 k2 k3 k4 t1 t2 t3 t4 : Tok} (U : UpdF td (dictOf (timersE w kt ut lft) 8) l g) (h1 : ∀ o', (pa, instObj 321 pd) ∈ g o') (h2 : ∀ o', (pd, dictOf (portE w k u ra ta ca told inf vec (.ref xa) pg pp ag ad rs sel dis) 33) ∈ g o') (h3 : ∀ o', (ta, instObj 237 td) ∈ g o') (h4 : ∀ o', (xa, instObj 53 xd) ∈ g o') (h5 : ∀ o', (xd, dictOf (timesE w k1 k2 k3 k4 ag' t1 6 t2 he' t3 9 t4) 4) ∈ g o') :
    Con prog w 3 163 [.ref pa] l (HoP w kt ut g (if ag' + 1 ≤ 6 then 3 * he' else 0)) := by
  unfold Con
  intro mean mg mb dp un gd cn cs ca' ccd cl outer A₀ base h₀ L m s Q E B F X N T hk hd hu hret
  obtain ⟨rest, hin, hout, D, hr, hl⟩ := UpdF.front (h₀ := h₀) (L := L) U
  replace h1 := hr _ h1
  replace h2 := hr _ h2
  replace h3 := hr _ h3
  replace h4 := hr _ h4
  replace h5 := hr _ h5
  replace N := hin _ N
  refine wpAny_call ?_
  k_dflt ktr_enter
  (repeat' (first | (k_unfold; (try dsimp only)) | walk1 | (dsimp only; walk1) | (leave1; (try dsimp only)) | fail "no step"))
  all_goals
    refine' hret _ _ _ _ (HoP.of ?e) ?fr (hout _ [] _ ?nn)
    case nn => k_asm
    case fr => k_asm
    case e =>
      clear hret hout hin hr hl
      first
        | exact (if_pos (by assumption)).symm
        | exact (if_neg (by assumption)).symm

theorem near_new {h₀ h : Heap} {L src av : Addr} {as : List Addr} {l lv l2 rest led : List (Addr × Obj)} {o : Obj} {Y : Vec} (D : Apart as rest) (hl : ∀ p ∈ l, p.1 = src ∨ p ∈ rest) (N : News h₀ L h led) (hv : IsVec (l2 ++ lv) av Y) (h1 : (l2.map (·.1) ++ [src]).Sublist as) (h2 : (l2 ++ (src, o) :: rest).Sublist led) :
    NewA (l2.map (·.1)) l ∧ IsVec (l2 ++ lv) av Y ∧ News h₀ L h (l2 ++ (src, o) :: rest) := ⟨NewA.of D h1 hl, hv, News.subl N h2⟩
theorem News.swap {h₀ h : Heap} {L : Addr} {p : Addr × Obj} {l2 rest : List (Addr × Obj)} (N : News h₀ L h (p :: (l2 ++ rest))) : News h₀ L h (l2 ++ p :: rest) := fun q hq => N q (by
  simp only [List.mem_cons, List.mem_append] at hq ⊢
  rcases hq with hq | hq | hq <;> simp [hq])
inductive NearP (l lv : List (Addr × Obj)) (g : Obj → List (Addr × Obj)) : Value → List (Addr × Obj) → Prop
  | mk (av : Addr) (l2 : List (Addr × Obj)) (Y : Vec) (a' b' : Int) (ta' tb' : Tok) (n' : Nat) (hn : NewA (l2.map (·.1)) l) (hv : IsVec (l2 ++ lv) av Y) : NearP l lv g (.ref av) (l2 ++ g (srcO a' b' ta' tb' n'))
theorem NearP.ret {l lv : List (Addr × Obj)} {g : Obj → List (Addr × Obj)} {R : Value → List (Addr × Obj) → Prop} (k9 : ∀ (av : Addr) (l2 : List (Addr × Obj)) (Y : Vec) (a' b' : Int) (ta' tb' : Tok) (n' : Nat) (hn : NewA (l2.map (·.1)) l) (hv : IsVec (l2 ++ lv) av Y), R (.ref av) (l2 ++ g (srcO a' b' ta' tb' n'))) : ∀ v9 l9, NearP l lv g v9 l9 → R v9 l9 := fun _ _ h9 => NearP.rec (motive := fun v9 l9 _ => R v9 l9) k9 h9
set_option maxHeartbeats 2000000 in
theorem near_c {prog : Program} (w : World) {l lv : List (Addr × Obj)} {g : Obj → List (Addr × Obj)} {src va : Addr} {a b : Int} {ta tb : Tok} {n : Nat} {X : Vec} (U : UpdF src (srcO a b ta tb n) l g) (hx : IsVec lv va X) (hsub : ∀ o', ∀ p ∈ lv, p ∈ g o') :
    Con prog w 5 360 [.ref src, .ref va] l (NearP l lv g) := by
  unfold Con
  intro mean mg mb dp un gd cn cs ca ccd cl outer A₀ base h₀ L m s Q E B F X₀ N T hk hd hu hret
  obtain ⟨rest, hin, hout, D, hr, hl⟩ := UpdF.front (h₀ := h₀) (L := L) U
  obtain ⟨ar, ab, ap, tc, tr0, tr1, tb0, tb1, tp0, tp1, g1, g2, g3, g4⟩ := id hx
  have h1 := hr _ (fun o' => hsub o' _ g1)
  have h2 := hr _ (fun o' => hsub o' _ g2)
  have h3 := hr _ (fun o' => hsub o' _ g3)
  have h4 := hr _ (fun o' => hsub o' _ g4)
  clear hsub hr
  replace N := hin _ N
  refine wpAny_call ?_
  k_dflt ktr_enter
  (repeat' (first | (k_unfold; (try dsimp only)) | ((with_reducible show wpAny _ _ (call (Value.ref _) _) _ _ _); first | ((with_reducible show wpAny _ _ (call (Value.ref 339) _) _ _ _); refine' con_use (take_c _ ?U ?ht ?ht2) ?k1 ?k2 ?k3 ?k4 ?k5 ?k6 ?k7 ?k8 ?_; (case k1 => k_asm); (case k2 => k_asm); (case k3 => k_asm); (case k4 => k_asm); (case k5 => k_asm); (case U => k_updF); (case ht => omega); (case ht2 => omega); (case k6 => first | exact rfl | assumption); (case k7 => ktr_room); (case k8 => ktr_units); refine' TakeP.ret ?_; intro d' td' a' b' ta' tb' n' lo' hi'; intro h' tk' F' N'; (try dsimp only at N'); (try k_sweep)) | ((with_reducible show wpAny _ _ (call (Value.ref 346) _) _ _ _); refine' con_use (one_c _ ?U ?hm ?ht ?ht2) ?k1 ?k2 ?k3 ?k4 ?k5 ?k6 ?k7 ?k8 ?_; (case k1 => k_asm); (case k2 => k_asm); (case k3 => k_asm); (case k4 => k_asm); (case k5 => k_asm); (case U => k_updF); (case hm => (intro o9; (try dsimp only); k_mem)); (case ht => exact Nat.le_of_ble_eq_true rfl); (case ht2 => exact Nat.le_of_ble_eq_true rfl); (case k6 => first | exact rfl | assumption); (case k7 => ktr_room); (case k8 => ktr_units); refine' OneP.ret ?_; (first | refine' mem_int4 ?_ | refine' mem_int2 ?_ | refine' mem_str3 ?_ | refine' mem_str4 ?_ | refine' mem_str5 ?_); intro x' t' hx' a' b' ta' tb' n'; intro h' tk' F' N'; (try dsimp only at N'); (try k_sweep)) | ((with_reducible show wpAny _ _ (call (Value.ref 353) _) _ _ _); refine' con_use (vector_c _ ?U) ?k1 ?k2 ?k3 ?k4 ?k5 ?k6 ?k7 ?k8 ?_; (case k1 => k_asm); (case k2 => k_asm); (case k3 => k_asm); (case k4 => k_asm); (case k5 => k_asm); (case U => k_updF); (case k6 => first | exact rfl | assumption); (case k7 => ktr_room); (case k8 => ktr_units); refine' VectorP.ret ?_; intro av l2 X a' b' ta' tb' n' hn' hi'; intro h' tk' F' N'; (with_reducible rename Apart _ _ => hD); refine' rot_use (bs := []) (E := []) hD hn' rfl rfl (by k_mem) N' ?_; clear hD N'; intro hD2 N'; dsimp only [List.cons_append, List.nil_append] at N' hD2; (try dsimp only at N'); (try k_sweep))) | ((with_reducible show wpAny _ _ (subscriptTail _ (PySem.Expr.Slice none (some _) none _) (Value.ref _) (Value.ref _)) _ _ _); k_dflt (first | (refine' slice_tuple_to (b := 2) ?s1 ?s2 ?s3 ?s4 ?s5 ?s6 ?_ ?s7 ?s8; (case s1 => k_asm); (case s2 => k_asm); (case s3 => exact News.isTup (by k_asm) (by k_mem)); (case s4 => exact Nat.le_of_ble_eq_true rfl); (case s5 => exact rfl); (case s6 => exact Nat.le_of_ble_eq_true rfl); (case s7 => with_unfolding_all rfl); (case s8 => kmk_pure)) | (refine' slice_tuple_to (b := 3) ?s1 ?s2 ?s3 ?s4 ?s5 ?s6 ?_ ?s7 ?s8; (case s1 => k_asm); (case s2 => k_asm); (case s3 => exact News.isTup (by k_asm) (by k_mem)); (case s4 => exact Nat.le_of_ble_eq_true rfl); (case s5 => exact rfl); (case s6 => exact Nat.le_of_ble_eq_true rfl); (case s7 => with_unfolding_all rfl); (case s8 => kmk_pure))); intro D' h' F' N' l1; (try k_lt l1); (try k_sweep)) | walk1 | (dsimp only; walk1) | (leave1; (try dsimp only)) | fail "no step"))
  all_goals (with_reducible rename Apart _ _ => hD)
  all_goals (with_reducible rename News _ _ _ _ => N')
  · obtain ⟨e1, e2, e3⟩ := near_new (l2 := []) (lv := lv) hD hl N' hx (List.Sublist.refl _) (List.Sublist.refl _)
    exact hret _ _ _ _ (.mk _ _ _ _ _ _ _ _ e1 e2) (by k_asm) (hout _ _ _ e3)
  · refine' hret _ _ _ _ (.mk _ [(_, tupO [.ref _, .int _ _, .ref _, .ref _]), (_, tupO [.int 9 _, .int _ _]), (_, tupO [.int 7 _, .int _ _])] _ _ _ _ _ _ (NewA.of hD ?sb hl) (IsVec.intro ?i1 ?i2 ?i3 ?i4)) ?fr (hout _ [(_, tupO [.ref _, .int _ _, .ref _, .ref _]), (_, tupO [.int 9 _, .int _ _]), (_, tupO [.int 7 _, .int _ _])] _ (News.subl ?n0 ?n1))
    case fr => k_asm
    case n0 => k_asm
    case n1 => dsimp only [List.cons_append, List.nil_append]; k_mem
    case sb => simp only [List.map_cons, List.map_nil, List.cons_append, List.nil_append]; k_mem
    case i1 => dsimp only [List.cons_append, List.nil_append]; k_mem
    case i2 => dsimp only [List.cons_append, List.nil_append]; k_mem
    case i3 => dsimp only [List.cons_append, List.nil_append]; k_mem
    case i4 => dsimp only [List.cons_append, List.nil_append]; k_mem
  · refine' hret _ _ _ _ (.mk _ [(_, tupO [.ref _, .int _ _, .ref _, .ref _]), (_, tupO [.int 8 _, .int _ _])] _ _ _ _ _ _ (NewA.of hD ?sb hl) (IsVec.intro ?i1 ?i2 ?i3 ?i4)) ?fr (hout _ [(_, tupO [.ref _, .int _ _, .ref _, .ref _]), (_, tupO [.int 8 _, .int _ _])] _ (News.subl ?n0 ?n1))
    case fr => k_asm
    case n0 => k_asm
    case n1 => dsimp only [List.cons_append, List.nil_append]; k_mem
    case sb => simp only [List.map_cons, List.map_nil, List.cons_append, List.nil_append]; k_mem
    case i1 => dsimp only [List.cons_append, List.nil_append]; k_mem
    case i2 => dsimp only [List.cons_append, List.nil_append]; k_mem
    case i3 => dsimp only [List.cons_append, List.nil_append]; k_mem
    case i4 => dsimp only [List.cons_append, List.nil_append]; k_mem
  · refine' hret _ _ _ _ (.mk _ [(_, tupO [.ref _, .int _ _, .ref _, .ref _])] _ _ _ _ _ _ (NewA.of hD ?sb hl) (IsVec.intro ?i1 ?i2 ?i3 ?i4)) ?fr (hout _ [(_, tupO [.ref _, .int _ _, .ref _, .ref _])] _ (News.subl ?n0 ?n1))
    case fr => k_asm
    case n0 => k_asm
    case n1 => dsimp only [List.cons_append, List.nil_append]; k_mem
    case sb => simp only [List.map_cons, List.map_nil, List.cons_append, List.nil_append]; k_mem
    case i1 => dsimp only [List.cons_append, List.nil_append]; k_mem
    case i2 => dsimp only [List.cons_append, List.nil_append]; k_mem
    case i3 => dsimp only [List.cons_append, List.nil_append]; k_mem
    case i4 => dsimp only [List.cons_append, List.nil_append]; k_mem
  · (with_reducible rename NewA _ _ => hn)
    (with_reducible rename IsVec _ _ _ => hv)
    refine' hret _ _ _ _ (.mk _ _ _ _ _ _ _ _ (NewA.of2 (bs := []) hD ?b1 hl hn ?b2 ?b3) (hv.more fun p hp => List.mem_append_left _ hp)) (by k_asm) (hout _ _ _ (News.swap ?b4))
    case b1 => exact List.Sublist.refl _
    case b2 => k_mem
    case b3 => k_mem
    case b4 => k_asm

local macro_rules | `(tactic| k_all) => `(tactic| (refine' IsVec.more ?z8 ?z9; (case z8 => with_reducible assumption); (case z9 => (intro p9 hp9; k_mem))))
local macro_rules | `(tactic| walk_at "compareOp Lt ref ref") => `(tactic| (k_here; k_dflt (refine' vec_lt ?z1 ?z2 ?z3 ?z4 ?_; (case z1 => k_asm); (case z2 => k_all); (case z3 => k_all); (case z4 => ktr_units))))
local macro_rules | `(tactic| walk_at "compareOp LtE ref ref") => `(tactic| (k_here; k_dflt (refine' vec_le ?z1 ?z2 ?z3 ?z4 ?_; (case z1 => k_asm); (case z2 => k_all); (case z3 => k_all); (case z4 => ktr_units))))
local macro_rules | `(tactic| walk_at "compareOp GtE ref ref") => `(tactic| (k_here; k_dflt (refine' vec_ge ?z1 ?z2 ?z3 ?z4 ?_; (case z1 => k_asm); (case z2 => k_all); (case z3 => k_all); (case z4 => ktr_units))))
local macro_rules | `(tactic| walk_at "compareOp NotEq ref ref") => `(tactic| (k_here; k_dflt (refine' vec_ne ?z1 ?z2 ?z3 ?z4 ?_; (case z1 => k_asm); (case z2 => k_all); (case z3 => k_all); (case z4 => ktr_units))))
local macro_rules | `(tactic| walk_at "compareOp Eq ref ref") => `(tactic| (k_here; k_dflt (refine' told_eq ?z1 ?z2 ?z3 ?z4 ?_; (case z1 => k_asm); (case z2 => k_mem); (case z3 => k_mem); (case z4 => ktr_units))))
local macro_rules | `(tactic| walk_at "compareOp Eq ref ref") => `(tactic| (k_here; k_dflt (refine' vec_eq ?z1 ?z2 ?z3 ?z4 ?_; (case z1 => k_asm); (case z2 => k_all); (case z3 => k_all); (case z4 => ktr_units))))
theorem same_e1 {X Y : Vec} (h : X.b1 = Y.b1) : (X.p1 == Y.p1) = sameP X Y := by simp [sameP, h]
theorem same_e2 {X Y : Vec} (h : ¬X.b1 = Y.b1) : (X.b1 == Y.b1) = sameP X Y := by simp [sameP, h]
theorem same_c {prog : Program} (w : World) {l : List (Addr × Obj)} {a b : Addr} {X Y : Vec} (hx : IsVec l a X) (hy : IsVec l b Y) :
    Con prog w 3 107 [.ref a, .ref b] l (Is (.bool (sameP X Y)) l) := by
  unfold Con
  intro mean mg mb dp un gd cn cs ca ccd cl outer A₀ base h₀ L m s Q E B F X₀ N T hk hd hu hret
  obtain ⟨ar, ab, ap, tc, tr0, tr1, tb0, tb1, tp0, tp1, h1, h2, h3, h4⟩ := id hx
  obtain ⟨ar', ab', ap', tc', tr0', tr1', tb0', tb1', tp0', tp1', h1', h2', h3', h4'⟩ := id hy
  refine wpAny_call ?_
  k_dflt ktr_enter
  (repeat' (first | (k_unfold; (try dsimp only)) | walk1 | (dsimp only; walk1) | (leave1; (try dsimp only)) | fail "no step"))
  all_goals first
    | exact hret _ _ _ _ (Is.of (congrArg Value.bool (same_e1 (by assumption))) rfl) (by k_asm) (by k_asm)
    | exact hret _ _ _ _ (Is.of (congrArg Value.bool (same_e2 (by assumption))) rfl) (by k_asm) (by k_asm)
noncomputable def sbS (X Y : Vec) : Bool := vlt X Y || (!(veq X Y) && sameP X Y)
theorem sb_e1 {X Y : Vec} (h : vlt X Y = true) : vlt X Y = sbS X Y := by simp [sbS, h]
theorem sb_e2 {X Y : Vec} (h : vlt X Y = false) (h2 : veq X Y = true) : (!(veq X Y)) = sbS X Y := by simp [sbS, h, h2]
theorem sb_e3 {X Y : Vec} (h : vlt X Y = false) (h2 : veq X Y = false) : sameP X Y = sbS X Y := by simp [sbS, h, h2]
theorem sb_c {prog : Program} (w : World) {l : List (Addr × Obj)} {a b : Addr} {X Y : Vec} (hx : IsVec l a X) (hy : IsVec l b Y) :
    Con prog w 6 114 [.ref a, .ref b] l (Is (.bool (sbS X Y)) l) := by
  unfold Con
  intro mean mg mb dp un gd cn cs ca ccd cl outer A₀ base h₀ L m s Q E B F X₀ N T hk hd hu hret
  refine wpAny_call ?_
  k_dflt ktr_enter
  (repeat' (first | (k_unfold; (try dsimp only)) | ((with_reducible show wpAny _ _ (call (Value.ref _) _) _ _ _); first | ((with_reducible show wpAny _ _ (call (Value.ref 107) _) _ _ _); refine' con_use (same_c _ ?hx ?hy) ?k1 ?k2 ?k3 ?k4 ?k5 ?k6 ?k7 ?k8 ?_; (case k1 => k_asm); (case k2 => k_asm); (case k3 => k_asm); (case k4 => k_asm); (case k5 => k_asm); (case hx => k_all); (case hy => k_all); (case k6 => first | exact rfl | assumption); (case k7 => ktr_room); (case k8 => ktr_units); refine' Is.ret ?_; intro h' tk' F' N'; (try dsimp only at N'); (try k_sweep))) | walk1 | (dsimp only; walk1) | (leave1; (try dsimp only)) | fail "no step"))
  all_goals first
    | exact hret _ _ _ _ (Is.of (congrArg Value.bool (sb_e1 (by assumption))) rfl) (by k_asm) (by k_asm)
    | exact hret _ _ _ _ (Is.of (congrArg Value.bool (sb_e2 (by assumption) (by assumption))) rfl) (by k_asm) (by k_asm)
    | exact hret _ _ _ _ (Is.of (congrArg Value.bool (sb_e3 (by assumption) (by assumption))) rfl) (by k_asm) (by k_asm)
noncomputable def kindS (kin rol : Str) (X Y : Vec) (te : Bool) : Str :=
  cond ((kin == Str.ofString "config") || (rol == Str.ofString "designated")) (cond (veq Y X) (cond te (Str.ofString "repeated") (Str.ofString "superior")) (cond (sbS Y X) (Str.ofString "superior") (Str.ofString "inferior")))
    (cond (([Str.ofString "root", Str.ofString "alternate"].any fun x => x == rol) && !(vlt Y X)) (Str.ofString "answer") (Str.ofString "other"))
theorem beqI (a b : Int) : (a == b) = decide (a = b) := by rw [Bool.eq_iff_iff, beq_iff_eq, decide_eq_true_eq]
abbrev teP (ag2 he2 ag' he' : Int) : Prop := ag2 = ag' ∧ (6 : Int) = 6 ∧ he2 = he' ∧ (9 : Int) = 9
theorem any_role {rol : Str} (hr : rol = Str.ofString "designated" ∨ rol = Str.ofString "root" ∨ rol = Str.ofString "alternate" ∨ rol = Str.ofString "none") (h : (rol == Str.ofString "designated") = false) : ([Str.ofString "root", Str.ofString "alternate"].any fun x => x == rol) = !(rol == Str.ofString "none") := by
  rcases hr with rfl | rfl | rfl | rfl
  · cases h
  · rfl
  · rfl
  · rfl
inductive KindP (K : Str) (l : List (Addr × Obj)) : Value → List (Addr × Obj) → Prop
  | mk (t : Tok) : KindP K l (.str K t) l
theorem KindP.ret {K : Str} {l : List (Addr × Obj)} {R : Value → List (Addr × Obj) → Prop} (k9 : ∀ (t : Tok), R (.str K t) l) : ∀ v9 l9, KindP K l v9 l9 → R v9 l9 := fun _ _ h9 => KindP.rec (motive := fun v9 l9 _ => R v9 l9) k9 h9
theorem KindP.of {K K' : Str} {l : List (Addr × Obj)} {t : Tok} (e : K' = K) : KindP K l (.str K' t) l := e ▸ .mk t
set_option maxHeartbeats 4000000 in
theorem heard_c {prog : Program} (w : World) {l : List (Addr × Obj)} {pa pd ra ta ca va xa xd ba bd bv ya yd : Addr} {k kb : Nat → Tok} {u ub : Nat → Value} {told inf pg pp ag ad rs sel dis chg cack pro agr lea : Value} {kin rol : Str} {tk tr : Tok} {k1 k2 k3 k4 t1 t2 t3 t4 j1 j2 j3 j4 i1 i2 i3 i4 : Tok} {ag' he' ag2 he2 : Int} {X Y : Vec} (h1 : (pa, instObj 321 pd) ∈ l) (h2 : (pd, dictOf (portE w k u ra ta ca told inf (.ref va) (.ref xa) pg pp ag ad rs sel dis) 33) ∈ l) (h3 : (ba, instObj 89 bd) ∈ l) (h4 : (bd, dictOf (bpduE w kb ub (.str kin tk) (.ref bv) (.ref ya) chg cack pro agr (.str rol tr) lea) 12) ∈ l) (h7 : (ya, instObj 53 yd) ∈ l) (h8 : (yd, dictOf (timesE w j1 j2 j3 j4 ag2 i1 6 i2 he2 i3 9 i4) 4) ∈ l) (h5 : (xa, instObj 53 xd) ∈ l) (h6 : (xd, dictOf (timesE w k1 k2 k3 k4 ag' t1 6 t2 he' t3 9 t4) 4) ∈ l) (hx : IsVec l va X) (hy : IsVec l bv Y) :
    Con prog w 10 121 [.ref pa, .ref ba] l (KindP (kindS kin rol X Y (decide (teP ag2 he2 ag' he'))) l) := by
  unfold Con
  intro mean mg mb dp un gd cn cs ca' ccd cl outer A₀ base h₀ L m s Q E B F X₀ N T hk hd hu hret
  have D := Apart.nil (rest := l)
  refine wpAny_call ?_
  k_dflt ktr_enter
  (repeat' (first | (k_unfold; (try dsimp only)) | ((with_reducible show wpAny _ _ (call (Value.ref _) _) _ _ _); first | ((with_reducible show wpAny _ _ (call (Value.ref 107) _) _ _ _); refine' con_use (same_c _ ?hx ?hy) ?k1 ?k2 ?k3 ?k4 ?k5 ?k6 ?k7 ?k8 ?_; (case k1 => k_asm); (case k2 => k_asm); (case k3 => k_asm); (case k4 => k_asm); (case k5 => k_asm); (case hx => k_all); (case hy => k_all); (case k6 => first | exact rfl | assumption); (case k7 => ktr_room); (case k8 => ktr_units); refine' Is.ret ?_; intro h' tk' F' N'; (try dsimp only at N'); (try k_sweep)) | ((with_reducible show wpAny _ _ (call (Value.ref 114) _) _ _ _); refine' con_use (sb_c _ ?hx ?hy) ?k1 ?k2 ?k3 ?k4 ?k5 ?k6 ?k7 ?k8 ?_; (case k1 => k_asm); (case k2 => k_asm); (case k3 => k_asm); (case k4 => k_asm); (case k5 => k_asm); (case hx => k_all); (case hy => k_all); (case k6 => first | exact rfl | assumption); (case k7 => ktr_room); (case k8 => ktr_units); refine' Is.ret ?_; intro h' tk' F' N'; (try dsimp only at N'); (try k_sweep))) | walk1 | (dsimp only; walk1) | (leave1; (try dsimp only)) | fail "no step"))
  all_goals
    refine' (fun e => hret _ _ _ _ (KindP.of e) ?fr ?nn) ?e
    case fr => k_asm
    case nn =>
      refine' News.subl ?n0 ?n1
      case n0 => k_asm
      case n1 => k_mem
    case e =>
      clear hret
      generalize hte : decide (teP _ _ _ _) = te
      first
        | (replace hte : te = true := hte ▸ decide_eq_true (by assumption))
        | (replace hte : te = false := hte ▸ decide_eq_false (by assumption))
        | clear hte
      simp only [kindS, *, Bool.true_or, Bool.or_true, Bool.false_or, Bool.or_false, cond_true, cond_false, Bool.true_and, Bool.false_and, Bool.not_true, Bool.not_false, and_self, decide_true, decide_false]
set_option maxHeartbeats 4000000 in
theorem kind_c {prog : Program} (w : World) {l : List (Addr × Obj)} {va xa ba bd bv ya yd : Addr} {kb : Nat → Tok} {ub : Nat → Value} {chg cack pro agr lea : Value} {kin rol : Str} {tk tr : Tok} {t1 t2 t3 t4 j1 j2 j3 j4 i1 i2 i3 i4 : Tok} {ag' he' ag2 he2 : Int} {X Y : Vec} (h3 : (ba, instObj 89 bd) ∈ l) (h4 : (bd, dictOf (bpduE w kb ub (.str kin tk) (.ref bv) (.ref ya) chg cack pro agr (.str rol tr) lea) 12) ∈ l) (h7 : (ya, instObj 53 yd) ∈ l) (h8 : (yd, dictOf (timesE w j1 j2 j3 j4 ag2 i1 6 i2 he2 i3 9 i4) 4) ∈ l) (hx : IsVec l va X) (hy : IsVec l bv Y) (h5 : (xa, tupO [.int ag' t1, .int 6 t2, .int he' t3, .int 9 t4]) ∈ l) (hr : rol = Str.ofString "designated" ∨ rol = Str.ofString "root" ∨ rol = Str.ofString "alternate" ∨ rol = Str.ofString "none") :
    Con prog w 14 372 [.ref va, .ref xa, .ref ba] l (KindP (kindS kin rol X Y (decide (teP ag2 he2 ag' he'))) l) := by
  unfold Con
  intro mean mg mb dp un gd cn cs ca' ccd cl outer A₀ base h₀ L m s Q E B F X₀ N T hk hd hu hret
  have D := Apart.nil (rest := l)
  obtain ⟨ar, ab, ap, tc, tr0, tr1, tb0, tb1, tp0, tp1, g1, g2, g3, g4⟩ := id hx
  obtain ⟨ar', ab', ap', tc', tr0', tr1', tb0', tb1', tp0', tp1', g1', g2', g3', g4'⟩ := id hy
  refine wpAny_call ?_
  k_dflt ktr_enter
  (repeat' (first | (k_unfold; (try dsimp only)) | ((with_reducible show wpAny _ _ (call (Value.ref _) _) _ _ _); first | ((with_reducible show wpAny _ _ (call (Value.ref 107) _) _ _ _); refine' con_use (same_c _ ?hx ?hy) ?k1 ?k2 ?k3 ?k4 ?k5 ?k6 ?k7 ?k8 ?_; (case k1 => k_asm); (case k2 => k_asm); (case k3 => k_asm); (case k4 => k_asm); (case k5 => k_asm); (case hx => k_all); (case hy => k_all); (case k6 => first | exact rfl | assumption); (case k7 => ktr_room); (case k8 => ktr_units); refine' Is.ret ?_; intro h' tk' F' N'; (try dsimp only at N'); (try k_sweep)) | ((with_reducible show wpAny _ _ (call (Value.ref 114) _) _ _ _); refine' con_use (sb_c _ ?hx ?hy) ?k1 ?k2 ?k3 ?k4 ?k5 ?k6 ?k7 ?k8 ?_; (case k1 => k_asm); (case k2 => k_asm); (case k3 => k_asm); (case k4 => k_asm); (case k5 => k_asm); (case hx => k_all); (case hy => k_all); (case k6 => first | exact rfl | assumption); (case k7 => ktr_room); (case k8 => ktr_units); refine' Is.ret ?_; intro h' tk' F' N'; (try dsimp only at N'); (try k_sweep)) | ((with_reducible show wpAny _ _ (call (Value.ref 365) _) _ _ _); refine' con_use (less_c _ ?hx ?hy) ?k1 ?k2 ?k3 ?k4 ?k5 ?k6 ?k7 ?k8 ?_; (case k1 => k_asm); (case k2 => k_asm); (case k3 => k_asm); (case k4 => k_asm); (case k5 => k_asm); (case hx => k_all); (case hy => k_all); (case k6 => first | exact rfl | assumption); (case k7 => ktr_room); (case k8 => ktr_units); refine' Is.ret ?_; intro h' tk' F' N'; (try dsimp only at N'); (try k_sweep))) | walk1 | (dsimp only; walk1) | (leave1; (try dsimp only)) | fail "no step"))
  all_goals
    refine' (fun e => hret _ _ _ _ (KindP.of e) ?fr ?nn) ?e
    case fr => k_asm
    case nn =>
      refine' News.subl ?n0 ?n1
      case n0 => k_asm
      case n1 => k_mem
    case e =>
      clear hret
      generalize hte : decide (teP _ _ _ _) = te
      first
        | (replace hte : te = true := hte ▸ decide_eq_true (by assumption))
        | (replace hte : te = false := hte ▸ decide_eq_false (by assumption))
        | clear hte
      have har := any_role hr
      simp only [bne, Bool.not_eq_true', Bool.not_eq_false'] at *
      first
        | contradiction
        | (simp [kindS, sbS, sameP, beqI, *]; done)
        | skip

inductive TctorP (w : World) (l : List (Addr × Obj)) (a : Int) (ta : Tok) (b : Int) (tb : Tok) (c : Int) (tc : Tok) (d : Int) (td : Tok) : Value → List (Addr × Obj) → Prop
  | mk (x dx : Addr) (k1 k2 k3 k4 : Tok) (hn : NewA [x, dx] l) : TctorP w l a ta b tb c tc d td (.ref x) ((x, instObj 53 dx) :: (dx, dictOf (timesE w k1 k2 k3 k4 a ta b tb c tc d td) 4) :: l)
theorem TctorP.ret {w : World} {l : List (Addr × Obj)} {a : Int} {ta : Tok} {b : Int} {tb : Tok} {c : Int} {tc : Tok} {d : Int} {td : Tok} {R : Value → List (Addr × Obj) → Prop} (k9 : ∀ (x dx : Addr) (k1 k2 k3 k4 : Tok) (hn : NewA [x, dx] l), R (.ref x) ((x, instObj 53 dx) :: (dx, dictOf (timesE w k1 k2 k3 k4 a ta b tb c tc d td) 4) :: l)) : ∀ v9 l9, TctorP w l a ta b tb c tc d td v9 l9 → R v9 l9 := fun _ _ h9 => TctorP.rec (motive := fun v9 l9 _ => R v9 l9) k9 h9
set_option maxHeartbeats 2000000 in
theorem tctor_c {prog : Program} (w : World) {l : List (Addr × Obj)} {a b c d : Int} {ta tb tc td : Tok} :
    Con prog w 3 53 [.int a ta, .int b tb, .int c tc, .int d td] l (TctorP w l a ta b tb c tc d td) := by
  unfold Con
  intro mean mg mb dp un gd cn cs ca' ccd cl outer A₀ base h₀ L m s Q E B F X N T hk hd hu hret
  have D := Apart.nil (rest := l)
  k_dflt (refine' call_cls ?k1 ?k2 ?k3 ?k4 ?k5 ?k6 ?_; (case k1 => k_asm); (case k2 => k_asm); (case k3 => k_asm); (case k4 => k_is); (case k5 => k_is); (case k6 => k_is); k_whole; intro x' d' h' F' N' l1 l2; (try k_lt l1); (try k_lt2 l2); (try k_sweep); ktr_enter)
  (repeat' (first | (k_unfold; (try dsimp only)) | walk1 | (dsimp only; walk1) | (leave1; (try dsimp only)) | fail "no step"))
  (with_reducible rename Apart _ _ => hD)
  refine' hret _ _ _ _ (.mk _ _ _ _ _ _ (NewA.of0 hD ?sb)) ?fr ?nn
  case fr => k_asm
  case nn => k_asm
  case sb => k_mem
set_option maxHeartbeats 2000000 in
theorem bpdu10_c {prog : Program} (w : World) {l : List (Addr × Obj)} {v0 v1 v2 v3 v4 v5 v6 v7 v8 v9 : Value} :
    Con prog w 3 89 [v0, v1, v2, v3, v4, v5, v6, v7, v8, v9] l (BpduP w l v1 v2 v3 v4 v5 v6 v7 v8 v9) := by
  unfold Con
  intro mean mg mb dp un gd cn cs ca' ccd cl outer A₀ base h₀ L m s Q E B F X N T hk hd hu hret
  have D := Apart.nil (rest := l)
  k_dflt (refine' call_cls ?k1 ?k2 ?k3 ?k4 ?k5 ?k6 ?_; (case k1 => k_asm); (case k2 => k_asm); (case k3 => k_asm); (case k4 => k_is); (case k5 => k_is); (case k6 => k_is); k_whole; intro x' d' h' F' N' l1 l2; (try k_lt l1); (try k_lt2 l2); (try k_sweep); (refine' code_def (binds := [(Str.ofString "self", .ref x'), (Str.ofString "version", v0), (Str.ofString "kind", v1), (Str.ofString "vector", v2), (Str.ofString "times", v3), (Str.ofString "is_change", v4), (Str.ofString "is_change_ack", v5), (Str.ofString "is_proposal", v6), (Str.ofString "is_agreement", v7), (Str.ofString "role", v8), (Str.ofString "is_learning", v9), (Str.ofString "is_forwarding", .bool false), (Str.ofString "tail", .bytes #[] 264)]) ?k1 ?k2 ?k3 ?k4 ?k5 ?kA ?kF ?kK ?k6 ?k7 ?k8 ?k9 ?kB ?_ ?c2 ?c3 ?c4 ?c5; (case kA => exact rfl); (case kF => exact rfl); (case kK => assumption); (case k1 => k_asm); (case k2 => k_asm); (case k3 => k_asm); (case k4 => k_asm); (case k5 => k_asm); (case k6 => k_is); (case k7 => k_is); (case k8 => ktr_room); (case k9 => first | exact BindsTo.of_eq rfl | exact binds_K (by k_in) rfl (by k_is) rfl rfl rfl); (case c5 => decide); (case kB => exact locs rfl); (case c2 => exact rfl); (case c3 => exact rfl); (case c4 => exact rfl); k_whole; intro g' L' h' FG' F' N' B' X' T'; (try dsimp only); (try k_fold)))
  (repeat' (first | (k_unfold; (try dsimp only)) | walk1 | (dsimp only; walk1) | (leave1; (try dsimp only)) | fail "no step"))
  (with_reducible rename Apart _ _ => hD)
  refine' hret _ _ _ _ (BpduP.intro (NewA.of0 hD ?sb)) ?fr ?nn
  case fr => k_asm
  case nn => k_asm
  case sb => k_mem
set_option maxHeartbeats 2000000 in
theorem bpdu9_c {prog : Program} (w : World) {l : List (Addr × Obj)} {v0 v1 v2 v3 v4 v5 v6 v7 v8 : Value} :
    Con prog w 3 89 [v0, v1, v2, v3, v4, v5, v6, v7, v8] l (BpduP w l v1 v2 v3 v4 v5 v6 v7 v8 (.bool false)) := by
  unfold Con
  intro mean mg mb dp un gd cn cs ca' ccd cl outer A₀ base h₀ L m s Q E B F X N T hk hd hu hret
  have D := Apart.nil (rest := l)
  k_dflt (refine' call_cls ?k1 ?k2 ?k3 ?k4 ?k5 ?k6 ?_; (case k1 => k_asm); (case k2 => k_asm); (case k3 => k_asm); (case k4 => k_is); (case k5 => k_is); (case k6 => k_is); k_whole; intro x' d' h' F' N' l1 l2; (try k_lt l1); (try k_lt2 l2); (try k_sweep); (refine' code_def (binds := [(Str.ofString "self", .ref x'), (Str.ofString "version", v0), (Str.ofString "kind", v1), (Str.ofString "vector", v2), (Str.ofString "times", v3), (Str.ofString "is_change", v4), (Str.ofString "is_change_ack", v5), (Str.ofString "is_proposal", v6), (Str.ofString "is_agreement", v7), (Str.ofString "role", v8), (Str.ofString "is_learning", .bool false), (Str.ofString "is_forwarding", .bool false), (Str.ofString "tail", .bytes #[] 264)]) ?k1 ?k2 ?k3 ?k4 ?k5 ?kA ?kF ?kK ?k6 ?k7 ?k8 ?k9 ?kB ?_ ?c2 ?c3 ?c4 ?c5; (case kA => exact rfl); (case kF => exact rfl); (case kK => assumption); (case k1 => k_asm); (case k2 => k_asm); (case k3 => k_asm); (case k4 => k_asm); (case k5 => k_asm); (case k6 => k_is); (case k7 => k_is); (case k8 => ktr_room); (case k9 => first | exact BindsTo.of_eq rfl | exact binds_K (by k_in) rfl (by k_is) rfl rfl rfl); (case c5 => decide); (case kB => exact locs rfl); (case c2 => exact rfl); (case c3 => exact rfl); (case c4 => exact rfl); k_whole; intro g' L' h' FG' F' N' B' X' T'; (try dsimp only); (try k_fold)))
  (repeat' (first | (k_unfold; (try dsimp only)) | walk1 | (dsimp only; walk1) | (leave1; (try dsimp only)) | fail "no step"))
  (with_reducible rename Apart _ _ => hD)
  refine' hret _ _ _ _ (BpduP.intro (NewA.of0 hD ?sb)) ?fr ?nn
  case fr => k_asm
  case nn => k_asm
  case sb => k_mem
set_option maxHeartbeats 2000000 in
theorem bpdu2_c {prog : Program} (w : World) {l : List (Addr × Obj)} {v0 v1 : Value} :
    Con prog w 3 89 [v0, v1] l (BpduP w l v1 .none .none (.bool false) (.bool false) (.bool false) (.bool false) (.str (Str.ofString "none") 263) (.bool false)) := by
  unfold Con
  intro mean mg mb dp un gd cn cs ca' ccd cl outer A₀ base h₀ L m s Q E B F X N T hk hd hu hret
  have D := Apart.nil (rest := l)
  k_dflt (refine' call_cls ?k1 ?k2 ?k3 ?k4 ?k5 ?k6 ?_; (case k1 => k_asm); (case k2 => k_asm); (case k3 => k_asm); (case k4 => k_is); (case k5 => k_is); (case k6 => k_is); k_whole; intro x' d' h' F' N' l1 l2; (try k_lt l1); (try k_lt2 l2); (try k_sweep); (refine' code_def (binds := [(Str.ofString "self", .ref x'), (Str.ofString "version", v0), (Str.ofString "kind", v1), (Str.ofString "vector", .none), (Str.ofString "times", .none), (Str.ofString "is_change", .bool false), (Str.ofString "is_change_ack", .bool false), (Str.ofString "is_proposal", .bool false), (Str.ofString "is_agreement", .bool false), (Str.ofString "role", .str (Str.ofString "none") 263), (Str.ofString "is_learning", .bool false), (Str.ofString "is_forwarding", .bool false), (Str.ofString "tail", .bytes #[] 264)]) ?k1 ?k2 ?k3 ?k4 ?k5 ?kA ?kF ?kK ?k6 ?k7 ?k8 ?k9 ?kB ?_ ?c2 ?c3 ?c4 ?c5; (case kA => exact rfl); (case kF => exact rfl); (case kK => assumption); (case k1 => k_asm); (case k2 => k_asm); (case k3 => k_asm); (case k4 => k_asm); (case k5 => k_asm); (case k6 => k_is); (case k7 => k_is); (case k8 => ktr_room); (case k9 => first | exact BindsTo.of_eq rfl | exact binds_K (by k_in) rfl (by k_is) rfl rfl rfl); (case c5 => decide); (case kB => exact locs rfl); (case c2 => exact rfl); (case c3 => exact rfl); (case c4 => exact rfl); k_whole; intro g' L' h' FG' F' N' B' X' T'; (try dsimp only); (try k_fold)))
  (repeat' (first | (k_unfold; (try dsimp only)) | walk1 | (dsimp only; walk1) | (leave1; (try dsimp only)) | fail "no step"))
  (with_reducible rename Apart _ _ => hD)
  refine' hret _ _ _ _ (BpduP.intro (NewA.of0 hD ?sb)) ?fr ?nn
  case fr => k_asm
  case nn => k_asm
  case sb => k_mem
set_option maxHeartbeats 2000000 in
theorem notice_c {prog : Program} (w : World) {l : List (Addr × Obj)} :
    Con prog w 5 100 [] l (NoticeP w l) := by
  unfold Con
  intro mean mg mb dp un gd cn cs ca' ccd cl outer A₀ base h₀ L m s Q E B F X N T hk hd hu hret
  have D := Apart.nil (rest := l)
  refine wpAny_call ?_
  k_dflt ktr_enter
  (repeat' (first | (k_unfold; (try dsimp only)) | ((with_reducible show wpAny _ _ (call (Value.ref _) _) _ _ _); first | ((with_reducible show wpAny _ _ (call (Value.ref 89) _) _ _ _); refine' con_use (bpdu2_c _) ?k1 ?k2 ?k3 ?k4 ?k5 ?k6 ?k7 ?k8 ?_; (case k1 => k_asm); (case k2 => k_asm); (case k3 => k_asm); (case k4 => k_asm); (case k5 => k_asm); (case k6 => first | exact rfl | assumption); (case k7 => ktr_room); (case k8 => ktr_units); refine' BpduP.ret ?_; intro x dx kb' ub' hn'; (with_reducible rename Apart _ _ => hD); (have hD2 := Apart.more hD hn' rfl rfl); clear hD hn'; dsimp only [List.cons_append, List.nil_append] at hD2; intro h' tk' F' N'; (try dsimp only at N'); (try k_sweep))) | walk1 | (dsimp only; walk1) | (leave1; (try dsimp only)) | fail "no step"))
  (with_reducible rename Apart _ _ => hD)
  refine' hret _ _ _ _ (.mk _ _ _ _ _ (NewA.of0 hD ?sb)) ?fr ?nn
  case fr => k_asm
  case nn => k_asm
  case sb => k_mem
theorem ib_e1 {a b : Str} {c : Bool} (h : (a == b) = false) : (a == b) = ((a == b) && c) := by rw [h]; rfl
theorem ib_e2 {a b : Str} {c : Bool} (h : (a == b) = true) : c = ((a == b) && c) := by rw [h]; rfl
set_option maxHeartbeats 2000000 in
theorem ib_c {prog : Program} (w : World) {l : List (Addr × Obj)} {pa pd ra ta ca va bv : Addr} {k : Nat → Tok} {u : Nat → Value} {told tim pg pp ag ad rs sel dis : Value} {inf jnf : Str} {ti tj : Tok} {X Y : Vec} (h1 : (pa, instObj 321 pd) ∈ l) (h2 : (pd, dictOf (portE w k u ra ta ca told (.str inf ti) (.ref va) tim pg pp ag ad rs sel dis) 33) ∈ l) (hx : IsVec l va X) (hy : IsVec l bv Y) :
    Con prog w 4 128 [.ref pa, .ref bv, .str jnf tj] l (Is (.bool ((inf == jnf) && !(vlt X Y))) l) := by
  unfold Con
  intro mean mg mb dp un gd cn cs ca' ccd cl outer A₀ base h₀ L m s Q E B F X₀ N T hk hd hu hret
  have D := Apart.nil (rest := l)
  refine wpAny_call ?_
  k_dflt ktr_enter
  (repeat' (first | (k_unfold; (try dsimp only)) | walk1 | (dsimp only; walk1) | (leave1; (try dsimp only)) | fail "no step"))
  all_goals first
    | exact hret _ _ _ _ (Is.of (congrArg Value.bool (ib_e1 (by assumption))) rfl) (by k_asm) (by k_asm)
    | exact hret _ _ _ _ (Is.of (congrArg Value.bool (ib_e2 (by assumption))) rfl) (by k_asm) (by k_asm)

theorem NewA.of3 {as : List Addr} {x y c t p : Addr} {rest : List (Addr × Obj)} {o1 o2 o3 : Obj} (D : Apart (x :: y :: c :: t :: p :: as) rest) : NewA [x, y] ((c, o1) :: (t, o2) :: (p, o3) :: rest) := by
  obtain ⟨h1, h2⟩ := D
  simp only [List.nodup_cons, List.mem_cons, not_or] at h1
  refine ⟨by simp [h1.1.1], fun a ha q hq => ?_⟩
  simp only [List.mem_cons, List.not_mem_nil, or_false] at ha hq
  rcases hq with rfl | rfl | rfl | hq
  · rcases ha with rfl | rfl
    · exact fun e => h1.1.2.1 e.symm
    · exact fun e => h1.2.1.1 e.symm
  · rcases ha with rfl | rfl
    · exact fun e => h1.1.2.2.1 e.symm
    · exact fun e => h1.2.1.2.1 e.symm
  · rcases ha with rfl | rfl
    · exact fun e => h1.1.2.2.2.1 e.symm
    · exact fun e => h1.2.1.2.2.1 e.symm
  · rcases ha with rfl | rfl
    · exact h2 _ (by simp) q hq
    · exact h2 _ (by simp) q hq
def JoinIs (_ : Bool) : Prop := True
theorem JoinIs.mk (c : Bool) : JoinIs c := trivial
inductive PostJ (h₀ : Heap) (L : Addr) (m : Str → Option Value) (l : List (Addr × Obj)) (s : Shared) (c : Bool) : Value → Shared → Prop
  | mk (h' : Heap) (tk' : Nat) (F : Fr h₀ L h' m) (N : News h₀ L h' l) : PostJ h₀ L m l s c (.bool c) { s with heap := h', toks := tk' }
theorem PostJ.of {h₀ : Heap} {L : Addr} {m : Str → Option Value} {l : List (Addr × Obj)} {s : Shared} {b c : Bool} {h' : Heap} {tk' : Nat} (e : b = c) (F : Fr h₀ L h' m) (N : News h₀ L h' l) : PostJ h₀ L m l s c (.bool b) { s with heap := h', toks := tk' } := e ▸ .mk h' tk' F N
theorem joinH {prog : Program} {w : World} {A : Around} {E : Value → Shared → Prop} {s : Shared} {h₀ : Heap} {L : Addr} {m : Str → Option Value} {l : List (Addr × Obj)} {c : Bool} {t : Sem Value} {Q : Value → Shared → Prop} (_J : JoinIs c) (F : Fr h₀ L s.heap m) (N : News h₀ L s.heap l)
    (h1 : wpAny (model prog w) A t (PostJ h₀ L m l s c) E s)
    (h2 : ∀ h' tk', Fr h₀ L h' m → News h₀ L h' l → Q (.bool c) { s with heap := h', toks := tk' }) : wpAny (model prog w) A t Q E s :=
  wpAny_mono h1 (fun v s' h => by cases h with | mk h' tk' F' N' => exact h2 h' tk' F' N') fun _ _ h => h
theorem bj1 {a b : Bool} (h : a = true) : b = (a && b) := by rw [h]; rfl
theorem bj2 {a b : Bool} (h : a = false) : a = (a && b) := by rw [h]; rfl
theorem bj3 {a b : Bool} (h : a = true) : a = (a || b) := by rw [h]; rfl
theorem bj4 {a b : Bool} (h : a = false) : b = (a || b) := by rw [h]; rfl
theorem bj5 {a b c : Bool} (h : a = true) (h2 : b = true) : c = (a && b && c) := by rw [h, h2]; rfl
theorem bj6 {a b c : Bool} (h : a = true) (h2 : b = false) : b = (a && b && c) := by rw [h, h2]; rfl
theorem bj7 {a b c : Bool} (h : a = false) : a = (a && b && c) := by rw [h]; rfl
inductive SupP (w : World) (l : List (Addr × Obj)) (ag he : Int) (tail : Addr → Tok → Tok → List (Addr × Obj)) : Value → List (Addr × Obj) → Prop
  | mk (za zd : Addr) (q1 q2 q3 q4 q5 q6 q7 q8 tl tj : Tok) (hn : NewA [za, zd] l) : SupP w l ag he tail .none ((za, instObj 53 zd) :: (zd, dictOf (timesE w q1 q2 q3 q4 ag q5 6 q6 he q7 9 q8) 4) :: tail za tl tj)
theorem SupP.ret {w : World} {l : List (Addr × Obj)} {ag he : Int} {tail : Addr → Tok → Tok → List (Addr × Obj)} {R : Value → List (Addr × Obj) → Prop} (k9 : ∀ (za zd : Addr) (q1 q2 q3 q4 q5 q6 q7 q8 tl tj : Tok) (hn : NewA [za, zd] l), R .none ((za, instObj 53 zd) :: (zd, dictOf (timesE w q1 q2 q3 q4 ag q5 6 q6 he q7 9 q8) 4) :: tail za tl tj)) : ∀ v9 l9, SupP w l ag he tail v9 l9 → R v9 l9 := fun _ _ h9 => SupP.rec (motive := fun v9 l9 _ => R v9 l9) k9 h9
set_option maxHeartbeats 2000000 in
theorem sup_c {prog : Program} (w : World) {rest : List (Addr × Obj)} {pa pd ra ta td ca cd va ba bd bv ya yd : Addr} {k kt kc kb : Nat → Tok} {u ut uc ub : Nat → Value} {told tim rs sel dis kin agr rol lea noti lft : Value} {pg pp ag ad hea ack ic ik ip : Bool} {inf : Str} {ti : Tok} {j1 j2 j3 j4 i1 i2 i3 i4 : Tok} {ag2 he2 : Int} {X Y : Vec}
    (D0 : Apart [cd, td, pd] rest) (h1 : (pa, instObj 321 pd) ∈ rest) (hta : (ta, instObj 237 td) ∈ rest) (hca : (ca, instObj 272 cd) ∈ rest) (h3 : (ba, instObj 89 bd) ∈ rest) (h4 : (bd, dictOf (bpduE w kb ub kin (.ref bv) (.ref ya) (.bool ic) (.bool ik) (.bool ip) agr rol lea) 12) ∈ rest) (h7 : (ya, instObj 53 yd) ∈ rest) (h8 : (yd, dictOf (timesE w j1 j2 j3 j4 ag2 i1 6 i2 he2 i3 9 i4) 4) ∈ rest) (hx : IsVec rest va X) (hy : IsVec rest bv Y) :
    Con prog w 8 170 [.ref pa, .ref ba] ((cd, dictOf (changeE w kc uc (.bool hea) (.bool ack) noti) 6) :: (td, dictOf (timersE w kt ut lft) 8) :: (pd, dictOf (portE w k u ra ta ca told (.str inf ti) (.ref va) tim (.bool pg) (.bool pp) (.bool ag) (.bool ad) rs sel dis) 33) :: rest)
      (SupP w ((cd, dictOf (changeE w kc uc (.bool hea) (.bool ack) noti) 6) :: (td, dictOf (timersE w kt ut lft) 8) :: (pd, dictOf (portE w k u ra ta ca told (.str inf ti) (.ref va) tim (.bool pg) (.bool pp) (.bool ag) (.bool ad) rs sel dis) 33) :: rest) ag2 (if 1 > he2 then 1 else he2) (fun za tl tj => (cd, dictOf (changeE w kc uc (.bool (hea || ic)) (.bool (ack || ik)) noti) 6) :: (td, dictOf (timersE w kt ut (.int (if ag2 + 1 ≤ 6 then 3 * (if 1 > he2 then 1 else he2) else 0) tl)) 8) :: (pd, dictOf (portE w k u ra ta ca told (.str (Str.ofString "received") tj) (.ref bv) (.ref za) (.bool false) (.bool (pp || ip)) (.bool (ag && ((inf == Str.ofString "received") && !(vlt X Y)))) (.bool false) (.bool true) (.bool false) dis) 33) :: rest)) := by
  unfold Con
  intro mean mg mb dp un gd cn cs ca' ccd cl outer A₀ base h₀ L m s Q E B F X₀ N T hk hd hu hret
  have D := D0
  clear D0
  have hJ := JoinIs.mk (ag && ((inf == Str.ofString "received") && !(vlt X Y)))
  refine wpAny_call ?_
  k_dflt ktr_enter
  (repeat' (first | (k_unfold; (try dsimp only)) | ((with_reducible show wpAny _ _ (call (Value.ref _) _) _ _ _); first | ((with_reducible show wpAny _ _ (call (Value.ref 128) _) _ _ _); refine' con_use (ib_c _ ?h1 ?h2 ?hx ?hy) ?k1 ?k2 ?k3 ?k4 ?k5 ?k6 ?k7 ?k8 ?_; (case k1 => k_asm); (case k2 => k_asm); (case k3 => k_asm); (case k4 => k_asm); (case k5 => k_asm); (case h1 => k_mem); (case h2 => k_mem); (case hx => k_all); (case hy => k_all); (case k6 => first | exact rfl | assumption); (case k7 => ktr_room); (case k8 => ktr_units); refine' Is.ret ?_; intro h' tk' F' N'; (try dsimp only at N'); (try k_sweep)) | ((with_reducible show wpAny _ _ (call (Value.ref 53) _) _ _ _); refine' con_use (tctor_c _) ?k1 ?k2 ?k3 ?k4 ?k5 ?k6 ?k7 ?k8 ?_; (case k1 => k_asm); (case k2 => k_asm); (case k3 => k_asm); (case k4 => k_asm); (case k5 => k_asm); (case k6 => first | exact rfl | assumption); (case k7 => ktr_room); (case k8 => ktr_units); refine' TctorP.ret ?_; intro x dx k1 k2 k3 k4 hn'; (with_reducible rename Apart _ _ => hD); (have hD2 := Apart.more hD hn' rfl rfl); clear hD hn'; dsimp only [List.cons_append, List.nil_append] at hD2; intro h' tk' F' N'; (try dsimp only at N'); (try k_sweep)) | ((with_reducible show wpAny _ _ (call (Value.ref 135) _) _ _ _); refine' con_use (rp_c _ ?U ?h1 ?h2 ?h3) ?k1 ?k2 ?k3 ?k4 ?k5 ?k6 ?k7 ?k8 ?_; (case k1 => k_asm); (case k2 => k_asm); (case k3 => k_asm); (case k4 => k_asm); (case k5 => k_asm); (case U => k_updF); (case h1 => (intro o9;(try dsimp only);k_mem)); (case h2 => (intro o9;(try dsimp only);k_mem)); (case h3 => (intro o9;(try dsimp only);k_mem)); (case k6 => first | exact rfl | assumption); (case k7 => ktr_room); (case k8 => ktr_units); refine' Is.ret ?_; intro h' tk' F' N'; (try dsimp only at N'); (try k_sweep)) | ((with_reducible show wpAny _ _ (call (Value.ref 156) _) _ _ _); refine' con_use (rc_c _ ?U ?h1 ?h2 ?h3 ?h4 ?h5) ?k1 ?k2 ?k3 ?k4 ?k5 ?k6 ?k7 ?k8 ?_; (case k1 => k_asm); (case k2 => k_asm); (case k3 => k_asm); (case k4 => k_asm); (case k5 => k_asm); (case U => k_updF); (case h1 => (intro o9;(try dsimp only);k_mem)); (case h2 => (intro o9;(try dsimp only);k_mem)); (case h3 => (intro o9;(try dsimp only);k_mem)); (case h4 => (intro o9;(try dsimp only);k_mem)); (case h5 => (intro o9;(try dsimp only);k_mem)); (case k6 => first | exact rfl | assumption); (case k7 => ktr_room); (case k8 => ktr_units); refine' Is.ret ?_; intro h' tk' F' N'; (try dsimp only at N'); (try k_sweep)) | ((with_reducible show wpAny _ _ (call (Value.ref 163) _) _ _ _); refine' con_use (ho_c _ ?U ?h1 ?h2 ?h3 ?h4 ?h5) ?k1 ?k2 ?k3 ?k4 ?k5 ?k6 ?k7 ?k8 ?_; (case k1 => k_asm); (case k2 => k_asm); (case k3 => k_asm); (case k4 => k_asm); (case k5 => k_asm); (case U => k_updF); (case h1 => (intro o9;(try dsimp only);k_mem)); (case h2 => (intro o9;(try dsimp only);k_mem)); (case h3 => (intro o9;(try dsimp only);k_mem)); (case h4 => (intro o9;(try dsimp only);k_mem)); (case h5 => (intro o9;(try dsimp only);k_mem)); (case k6 => first | exact rfl | assumption); (case k7 => ktr_room); (case k8 => ktr_units); refine' HoP.ret ?_; intro tl'; intro h' tk' F' N'; (try dsimp only at N'); (try k_sweep))) | ((with_reducible show wpAny _ _ (eval (PySem.Expr.BoolOp _ _ _) _) _ _ _); (with_reducible rename JoinIs _ => hJ); (refine' joinH hJ ?k1 ?k2 ?k3 ?_; (case k1 => k_asm); (case k2 => k_asm)); (all_goals clear hJ); (case k3 => ((repeat' (first | (k_unfold; (try dsimp only)) | ((with_reducible show wpAny _ _ (call (Value.ref _) _) _ _ _); first | ((with_reducible show wpAny _ _ (call (Value.ref 128) _) _ _ _); refine' con_use (ib_c _ ?h1 ?h2 ?hx ?hy) ?k1 ?k2 ?k3 ?k4 ?k5 ?k6 ?k7 ?k8 ?_; (case k1 => k_asm); (case k2 => k_asm); (case k3 => k_asm); (case k4 => k_asm); (case k5 => k_asm); (case h1 => k_mem); (case h2 => k_mem); (case hx => k_all); (case hy => k_all); (case k6 => first | exact rfl | assumption); (case k7 => ktr_room); (case k8 => ktr_units); refine' Is.ret ?_; intro h' tk' F' N'; (try dsimp only at N'); (try k_sweep)) | ((with_reducible show wpAny _ _ (call (Value.ref 365) _) _ _ _); refine' con_use (less_c _ ?hx ?hy) ?k1 ?k2 ?k3 ?k4 ?k5 ?k6 ?k7 ?k8 ?_; (case k1 => k_asm); (case k2 => k_asm); (case k3 => k_asm); (case k4 => k_asm); (case k5 => k_asm); (case hx => k_all); (case hy => k_all); (case k6 => first | exact rfl | assumption); (case k7 => ktr_room); (case k8 => ktr_units); refine' Is.ret ?_; intro h' tk' F' N'; (try dsimp only at N'); (try k_sweep))) | walk1 | (dsimp only; walk1) | (leave1; (try dsimp only)) | fail "no step")); all_goals (refine' PostJ.of ?e9 ?f9 ?n9; (case f9 => k_asm); (case n9 => k_asm); (case e9 => first | exact bj1 (by assumption) | exact bj2 (by assumption) | exact bj3 (by assumption) | exact bj4 (by assumption) | exact bj5 (by assumption) (by assumption) | exact bj6 (by assumption) (by assumption) | exact bj7 (by assumption) | exact rfl)))); intro h' tk' F' N'; (try k_sweep)) | walk1 | (dsimp only; walk1) | (leave1; (try dsimp only)) | fail "no step"))
  (with_reducible rename Apart _ _ => hD)
  refine' hret _ _ _ _ (.mk _ _ _ _ _ _ _ _ _ _ _ _ (NewA.of3 hD)) ?fr ?nn
  case fr => k_asm
  case nn => k_asm

structure Wd where
  (pp pg ag ad dis hea ack noti rs sel : Bool) (inf : Str) (left : Int) (va : Addr) (age hel : Int)
structure Bp where
  (ip ic ik ia il rapid st : Bool) (bv : Addr) (age hel : Int) (lt : Bool)
noncomputable def W_sup (W : Wd) (b : Bp) : Wd := { W with pp := W.pp || b.ip, pg := false, ag := W.ag && ((W.inf == Str.ofString "received") && !b.lt), ad := false, hea := W.hea || b.ic, ack := W.ack || b.ik, rs := true, sel := false, inf := Str.ofString "received", left := if b.age + 1 ≤ 6 then 3 * (if 1 > b.hel then 1 else b.hel) else 0, va := b.bv, age := b.age, hel := if 1 > b.hel then 1 else b.hel }
noncomputable def W_rep (W : Wd) (b : Bp) : Wd := { W with pp := W.pp || b.ip, hea := W.hea || b.ic, ack := W.ack || b.ik, left := if W.age + 1 ≤ 6 then 3 * W.hel else 0 }
noncomputable def W_inf (W : Wd) (b : Bp) : Wd := { W with dis := W.dis || (b.rapid && b.il), ad := W.ad && !(b.rapid && b.il) }
noncomputable def W_ans (W : Wd) (b : Bp) : Wd := { W with ad := b.st && b.rapid && b.ia, pg := W.pg && !(b.st && b.rapid && b.ia), hea := W.hea || b.ic, ack := W.ack || b.ik }
noncomputable def dueW (K : Str) (W : Wd) (b : Bp) : Wd := cond (K == Str.ofString "superior") (W_sup W b) (cond (K == Str.ofString "repeated") (W_rep W b) (cond (K == Str.ofString "inferior") (W_inf W b) (cond (K == Str.ofString "answer") (W_ans W b) W)))
theorem due1 {K : Str} {W : Wd} {b : Bp} (h : (K == Str.ofString "superior") = true) : W_sup W b = dueW K W b := by simp only [dueW, h, cond_true]
theorem due2 {K : Str} {W : Wd} {b : Bp} (h : (K == Str.ofString "superior") = false) (h2 : (K == Str.ofString "repeated") = true) : W_rep W b = dueW K W b := by simp only [dueW, h, h2, cond_true, cond_false]
theorem due3 {K : Str} {W : Wd} {b : Bp} (h : (K == Str.ofString "superior") = false) (h2 : (K == Str.ofString "repeated") = false) (h3 : (K == Str.ofString "inferior") = true) : W_inf W b = dueW K W b := by simp only [dueW, h, h2, h3, cond_true, cond_false]
theorem due4 {K : Str} {W : Wd} {b : Bp} (h : (K == Str.ofString "superior") = false) (h2 : (K == Str.ofString "repeated") = false) (h3 : (K == Str.ofString "inferior") = false) (h4 : (K == Str.ofString "answer") = true) : W_ans W b = dueW K W b := by simp only [dueW, h, h2, h3, h4, cond_true, cond_false]
theorem due5 {K : Str} {W : Wd} {b : Bp} (h : (K == Str.ofString "superior") = false) (h2 : (K == Str.ofString "repeated") = false) (h3 : (K == Str.ofString "inferior") = false) (h4 : (K == Str.ofString "answer") = false) : W = dueW K W b := by simp only [dueW, h, h2, h3, h4, cond_false]
noncomputable abbrev cdL (w : World) (cd : Addr) (kc : Nat → Tok) (uc : Nat → Value) (hea ack noti : Bool) : Addr × Obj := (cd, dictOf (changeE w kc uc (.bool hea) (.bool ack) (.bool noti)) 6)
noncomputable abbrev tdL (w : World) (td : Addr) (kt : Nat → Tok) (ut : Nat → Value) (left : Int) (tl : Tok) : Addr × Obj := (td, dictOf (timersE w kt ut (.int left tl)) 8)
noncomputable abbrev pdL (w : World) (pd : Addr) (k : Nat → Tok) (u : Nat → Value) (ra ta ca : Addr) (told : Value) (inf : Str) (ti : Tok) (va xa : Addr) (pg pp ag ad rs sel dis : Bool) : Addr × Obj := (pd, dictOf (portE w k u ra ta ca told (.str inf ti) (.ref va) (.ref xa) (.bool pg) (.bool pp) (.bool ag) (.bool ad) (.bool rs) (.bool sel) (.bool dis)) 33)
/-- what take_told leaves -/
inductive ToldEnd (w : World) (W : Wd) (l rest : List (Addr × Obj)) (cd td pd ra ta ca : Addr) (k kt kc : Nat → Tok) (u ut uc : Nat → Value) : Value → List (Addr × Obj) → Prop
  | mk (l2 : List (Addr × Obj)) (xb xbd : Addr) (q1 q2 q3 q4 q5 q6 q7 q8 tl ti : Tok) (hn : NewA (l2.map (·.1)) l) (h1 : (xb, instObj 53 xbd) ∈ l2 ++ rest) (h2 : (xbd, dictOf (timesE w q1 q2 q3 q4 W.age q5 6 q6 W.hel q7 9 q8) 4) ∈ l2 ++ rest) :
    ToldEnd w W l rest cd td pd ra ta ca k kt kc u ut uc .none (l2 ++ (cdL w cd kc uc W.hea W.ack W.noti :: tdL w td kt ut W.left tl :: pdL w pd k u ra ta ca .none W.inf ti W.va xb W.pg W.pp W.ag W.ad W.rs W.sel W.dis :: rest))
theorem ToldEnd.ret {w : World} {W : Wd} {l rest : List (Addr × Obj)} {cd td pd ra ta ca : Addr} {k kt kc : Nat → Tok} {u ut uc : Nat → Value} {R : Value → List (Addr × Obj) → Prop} (k9 : ∀ (l2 : List (Addr × Obj)) (xb xbd : Addr) (q1 q2 q3 q4 q5 q6 q7 q8 tl ti : Tok) (hn : NewA (l2.map (·.1)) l) (h1 : (xb, instObj 53 xbd) ∈ l2 ++ rest) (h2 : (xbd, dictOf (timesE w q1 q2 q3 q4 W.age q5 6 q6 W.hel q7 9 q8) 4) ∈ l2 ++ rest), R .none (l2 ++ (cdL w cd kc uc W.hea W.ack W.noti :: tdL w td kt ut W.left tl :: pdL w pd k u ra ta ca .none W.inf ti W.va xb W.pg W.pp W.ag W.ad W.rs W.sel W.dis :: rest))) : ∀ v9 l9, ToldEnd w W l rest cd td pd ra ta ca k kt kc u ut uc v9 l9 → R v9 l9 := fun _ _ h9 => ToldEnd.rec (motive := fun v9 l9 _ => R v9 l9) k9 h9
theorem NewA.none {l : List (Addr × Obj)} : NewA [] l := ⟨List.nodup_nil, fun _ h => nomatch h⟩
theorem ToldEnd.same {w : World} {W W0 : Wd} {l rest : List (Addr × Obj)} {cd td pd ra ta ca xa xd : Addr} {k kt kc : Nat → Tok} {u ut uc : Nat → Value} {q1 q2 q3 q4 q5 q6 q7 q8 tl ti : Tok} (e : W0 = W) (h5 : (xa, instObj 53 xd) ∈ rest) (h6 : (xd, dictOf (timesE w q1 q2 q3 q4 W0.age q5 6 q6 W0.hel q7 9 q8) 4) ∈ rest) :
    ToldEnd w W l rest cd td pd ra ta ca k kt kc u ut uc .none (cdL w cd kc uc W0.hea W0.ack W0.noti :: tdL w td kt ut W0.left tl :: pdL w pd k u ra ta ca .none W0.inf ti W0.va xa W0.pg W0.pp W0.ag W0.ad W0.rs W0.sel W0.dis :: rest) := by
  subst e
  exact .mk [] xa xd _ _ _ _ _ _ _ _ _ _ NewA.none h5 h6
theorem ToldEnd.new {w : World} {W W0 : Wd} {l rest : List (Addr × Obj)} {cd td pd ra ta ca za zd : Addr} {k kt kc : Nat → Tok} {u ut uc : Nat → Value} {q1 q2 q3 q4 q5 q6 q7 q8 tl ti : Tok} (e : W0 = W) (hn : NewA [za, zd] l) :
    ToldEnd w W l rest cd td pd ra ta ca k kt kc u ut uc .none ((za, instObj 53 zd) :: (zd, dictOf (timesE w q1 q2 q3 q4 W0.age q5 6 q6 W0.hel q7 9 q8) 4) :: cdL w cd kc uc W0.hea W0.ack W0.noti :: tdL w td kt ut W0.left tl :: pdL w pd k u ra ta ca .none W0.inf ti W0.va za W0.pg W0.pp W0.ag W0.ad W0.rs W0.sel W0.dis :: rest) := by
  subst e
  exact .mk [(za, instObj 53 zd), (zd, dictOf (timesE w q1 q2 q3 q4 W0.age q5 6 q6 W0.hel q7 9 q8) 4)] za zd _ _ _ _ _ _ _ _ _ _ hn (.head _) (.tail _ (.head _))
set_option maxHeartbeats 1000000 in
theorem told_c {prog : Program} (w : World) {rest : List (Addr × Obj)} {pa pd ra rd ta td ca cd va xa xd ba bd bv ya yd : Addr} {k kr kt kc kb : Nat → Tok} {u ur ut uc ub : Nat → Value} {pg pp ag ad rs sel dis hea ack noti ic ik ip ia il st : Bool} {inf kin rol : Str} {left : Int} {ti tl tk tr : Tok} {k1 k2 k3 k4 t1 t2 t3 t4 j1 j2 j3 j4 i1 i2 i3 i4 : Tok} {ag' he' ag2 he2 : Int} {X Y : Vec}
    (D0 : Apart [cd, td, pd] rest) (h1 : (pa, instObj 321 pd) ∈ rest) (hta : (ta, instObj 237 td) ∈ rest) (hca : (ca, instObj 272 cd) ∈ rest) (hra : (ra, instObj 202 rd) ∈ rest) (hrd : (rd, dictOf (rowE w kr ur (.bool st)) 5) ∈ rest) (h5 : (xa, instObj 53 xd) ∈ rest) (h6 : (xd, dictOf (timesE w k1 k2 k3 k4 ag' t1 6 t2 he' t3 9 t4) 4) ∈ rest)
    (h3 : (ba, instObj 89 bd) ∈ rest) (h4 : (bd, dictOf (bpduE w kb ub (.str kin tk) (.ref bv) (.ref ya) (.bool ic) (.bool ik) (.bool ip) (.bool ia) (.str rol tr) (.bool il)) 12) ∈ rest) (h7 : (ya, instObj 53 yd) ∈ rest) (h8 : (yd, dictOf (timesE w j1 j2 j3 j4 ag2 i1 6 i2 he2 i3 9 i4) 4) ∈ rest) (hx : IsVec rest va X) (hy : IsVec rest bv Y) (hkin : (kin == Str.ofString "change") = false) {W : Wd} (hW : W = dueW (kindS kin rol X Y (decide (teP ag2 he2 ag' he'))) ⟨pp, pg, ag, ad, dis, hea, ack, noti, rs, sel, inf, left, va, ag', he'⟩ ⟨ip, ic, ik, ia, il, kin == Str.ofString "rapid", st, bv, ag2, he2, vlt X Y⟩) :
    Con prog w 14 177 [.ref pa] (cdL w cd kc uc hea ack noti :: tdL w td kt ut left tl :: pdL w pd k u ra ta ca (.ref ba) inf ti va xa pg pp ag ad rs sel dis :: rest)
      (ToldEnd w W (cdL w cd kc uc hea ack noti :: tdL w td kt ut left tl :: pdL w pd k u ra ta ca (.ref ba) inf ti va xa pg pp ag ad rs sel dis :: rest) rest cd td pd ra ta ca k kt kc u ut uc) := by
  unfold Con
  intro mean mg mb dp un gd cn cs ca' ccd cl outer A₀ base h₀ L m s Q E B F X₀ N T hk hd hu hret
  subst hW
  have D := D0
  clear D0
  refine wpAny_call ?_
  k_dflt ktr_enter
  (repeat' (first | (k_unfold; (try dsimp only)) | ((with_reducible show wpAny _ _ (call (Value.ref _) _) _ _ _); first | ((with_reducible show wpAny _ _ (call (Value.ref 121) _) _ _ _); refine' con_use (heard_c _ ?h1 ?h2 ?h3 ?h4 ?h7 ?h8 ?h5 ?h6 ?hx ?hy) ?k1 ?k2 ?k3 ?k4 ?k5 ?k6 ?k7 ?k8 ?_; (case k1 => k_asm); (case k2 => k_asm); (case k3 => k_asm); (case k4 => k_asm); (case k5 => k_asm); (case h1 => k_mem); (case h2 => k_mem); (case h3 => k_mem); (case h4 => k_mem); (case h7 => k_mem); (case h8 => k_mem); (case h5 => k_mem); (case h6 => k_mem); (case hx => k_all); (case hy => k_all); (case k6 => first | exact rfl | assumption); (case k7 => ktr_room); (case k8 => ktr_units); refine' KindP.ret ?_; intro t9; intro h' tk' F' N'; (try dsimp only at N'); (try k_sweep)) | ((with_reducible show wpAny _ _ (call (Value.ref 170) _) _ _ _); refine' con_use (sup_c _ ?D0 ?h1 ?hta ?hca ?h3 ?h4 ?h7 ?h8 ?hx ?hy) ?k1 ?k2 ?k3 ?k4 ?k5 ?k6 ?k7 ?k8 ?_; (case k1 => k_asm); (case k2 => k_asm); (case k3 => k_asm); (case k4 => (refine' News.subl ?n0 ?n1; (case n0 => k_asm); (case n1 => k_mem))); (case k5 => k_asm); (case D0 => exact Apart.sub (by assumption) (by k_mem)); (case h1 => k_mem); (case hta => k_mem); (case hca => k_mem); (case h3 => k_mem); (case h4 => k_mem); (case h7 => k_mem); (case h8 => k_mem); (case hx => k_all); (case hy => k_all); (case k6 => first | exact rfl | assumption); (case k7 => ktr_room); (case k8 => ktr_units); refine' SupP.ret ?_; intro za zd q1 q2 q3 q4 q5 q6 q7 q8 tl tj hn'; (with_reducible rename Apart _ _ => hD); (have hD2 := Apart.more (Apart.sub hD (List.Sublist.cons _ (List.Sublist.refl _))) hn' rfl rfl); clear hD; dsimp only [List.cons_append, List.nil_append] at hD2; intro h' tk' F' N'; (try dsimp only at N'); (try k_sweep)) | ((with_reducible show wpAny _ _ (call (Value.ref 135) _) _ _ _); refine' con_use (rp_c _ ?U ?h1 ?h2 ?h3) ?k1 ?k2 ?k3 ?k4 ?k5 ?k6 ?k7 ?k8 ?_; (case k1 => k_asm); (case k2 => k_asm); (case k3 => k_asm); (case k4 => k_asm); (case k5 => k_asm); (case U => k_updF); (case h1 => (intro o9;(try dsimp only);k_mem)); (case h2 => (intro o9;(try dsimp only);k_mem)); (case h3 => (intro o9;(try dsimp only);k_mem)); (case k6 => first | exact rfl | assumption); (case k7 => ktr_room); (case k8 => ktr_units); refine' Is.ret ?_; intro h' tk' F' N'; (try dsimp only at N'); (try k_sweep)) | ((with_reducible show wpAny _ _ (call (Value.ref 142) _) _ _ _); refine' con_use (ra_c _ ?U ?h1 ?h2 ?h3 ?h4 ?h5) ?k1 ?k2 ?k3 ?k4 ?k5 ?k6 ?k7 ?k8 ?_; (case k1 => k_asm); (case k2 => k_asm); (case k3 => k_asm); (case k4 => k_asm); (case k5 => k_asm); (case U => k_updF); (case h1 => (intro o9;(try dsimp only);k_mem)); (case h2 => (intro o9;(try dsimp only);k_mem)); (case h3 => (intro o9;(try dsimp only);k_mem)); (case h4 => (intro o9;(try dsimp only);k_mem)); (case h5 => (intro o9;(try dsimp only);k_mem)); (case k6 => first | exact rfl | assumption); (case k7 => ktr_room); (case k8 => ktr_units); refine' Is.ret ?_; intro h' tk' F' N'; (try dsimp only at N'); (try k_sweep)) | ((with_reducible show wpAny _ _ (call (Value.ref 149) _) _ _ _); refine' con_use (rd_c _ ?U ?h1 ?h2 ?h3) ?k1 ?k2 ?k3 ?k4 ?k5 ?k6 ?k7 ?k8 ?_; (case k1 => k_asm); (case k2 => k_asm); (case k3 => k_asm); (case k4 => k_asm); (case k5 => k_asm); (case U => k_updF); (case h1 => (intro o9;(try dsimp only);k_mem)); (case h2 => (intro o9;(try dsimp only);k_mem)); (case h3 => (intro o9;(try dsimp only);k_mem)); (case k6 => first | exact rfl | assumption); (case k7 => ktr_room); (case k8 => ktr_units); refine' Is.ret ?_; intro h' tk' F' N'; (try dsimp only at N'); (try k_sweep)) | ((with_reducible show wpAny _ _ (call (Value.ref 156) _) _ _ _); refine' con_use (rc_c _ ?U ?h1 ?h2 ?h3 ?h4 ?h5) ?k1 ?k2 ?k3 ?k4 ?k5 ?k6 ?k7 ?k8 ?_; (case k1 => k_asm); (case k2 => k_asm); (case k3 => k_asm); (case k4 => k_asm); (case k5 => k_asm); (case U => k_updF); (case h1 => (intro o9;(try dsimp only);k_mem)); (case h2 => (intro o9;(try dsimp only);k_mem)); (case h3 => (intro o9;(try dsimp only);k_mem)); (case h4 => (intro o9;(try dsimp only);k_mem)); (case h5 => (intro o9;(try dsimp only);k_mem)); (case k6 => first | exact rfl | assumption); (case k7 => ktr_room); (case k8 => ktr_units); refine' Is.ret ?_; intro h' tk' F' N'; (try dsimp only at N'); (try k_sweep)) | ((with_reducible show wpAny _ _ (call (Value.ref 163) _) _ _ _); refine' con_use (ho_c _ ?U ?h1 ?h2 ?h3 ?h4 ?h5) ?k1 ?k2 ?k3 ?k4 ?k5 ?k6 ?k7 ?k8 ?_; (case k1 => k_asm); (case k2 => k_asm); (case k3 => k_asm); (case k4 => k_asm); (case k5 => k_asm); (case U => k_updF); (case h1 => (intro o9;(try dsimp only);k_mem)); (case h2 => (intro o9;(try dsimp only);k_mem)); (case h3 => (intro o9;(try dsimp only);k_mem)); (case h4 => (intro o9;(try dsimp only);k_mem)); (case h5 => (intro o9;(try dsimp only);k_mem)); (case k6 => first | exact rfl | assumption); (case k7 => ktr_room); (case k8 => ktr_units); refine' HoP.ret ?_; intro tl'; intro h' tk' F' N'; (try dsimp only at N'); (try k_sweep))) | walk1 | (dsimp only; walk1) | (leave1; (try dsimp only)) | fail "no step"))
  · (with_reducible rename Apart _ _ => hD)
    refine' hret _ _ _ _ (ToldEnd.new (due1 (by assumption)) (NewA.of3 hD)) ?fr ?nn
    case fr => k_asm
    case nn => k_asm
  all_goals
    first
      | refine' hret _ _ _ _ (ToldEnd.same (due2 (by assumption) (by assumption)) h5 h6) ?fr ?nn
      | refine' hret _ _ _ _ (ToldEnd.same (due3 (by assumption) (by assumption) (by assumption)) h5 h6) ?fr ?nn
      | refine' hret _ _ _ _ (ToldEnd.same (due4 (by assumption) (by assumption) (by assumption) (by assumption)) h5 h6) ?fr ?nn
      | refine' hret _ _ _ _ (ToldEnd.same (due5 (by assumption) (by assumption) (by assumption) (by assumption)) h5 h6) ?fr ?nn
    case fr => k_asm
    case nn =>
      refine' News.subl ?n0 ?n1
      case n0 => k_asm
      case n1 => k_mem

abbrev wordsW (W : Wd) (told : Value) (ti tl : Tok) (tm an : Addr) : List (Str × Value) := wordsL W.pp W.pg W.ag W.ad W.dis W.hea told W.inf ti W.ack W.noti W.left tl W.va tm an
inductive HoldP (g : Obj → List (Addr × Obj)) (P : Obj → Tok → Prop) : Value → List (Addr × Obj) → Prop
  | mk (o' : Obj) (tl' : Tok) (hd : P o' tl') : HoldP g P .none (g o')
theorem HoldP.ret {g : Obj → List (Addr × Obj)} {P : Obj → Tok → Prop} {R : Value → List (Addr × Obj) → Prop} (k9 : ∀ (o' : Obj) (tl' : Tok) (hd : P o' tl'), R .none (g o')) : ∀ v9 l9, HoldP g P v9 l9 → R v9 l9 := fun _ _ h9 => HoldP.rec (motive := fun v9 l9 _ => R v9 l9) k9 h9
set_option maxHeartbeats 1000000 in
theorem hold_c {prog : Program} (w : World) {l : List (Addr × Obj)} {g : Obj → List (Addr × Obj)} {wd tm an va : Addr} {o : Obj} {pp pg ag ad dis hea ack noti : Bool} {told : Value} {inf : Str} {ti tl : Tok} {left age hel : Int} {t1 t2 t3 t4 : Tok} (U : UpdF wd o l g) (hd : o.IsDictOf (PySem.strKind prog w) (wordsL pp pg ag ad dis hea told inf ti ack noti left tl va tm an)) (htm : ∀ o', (tm, tupO [.int age t1, .int 6 t2, .int hel t3, .int 9 t4]) ∈ g o') :
    Con prog w 3 400 [.ref wd] l (HoldP g (fun o' tl' => o'.IsDictOf (PySem.strKind prog w) (wordsL pp pg ag ad dis hea told inf ti ack noti (if age + 1 ≤ 6 then 3 * hel else 0) tl' va tm an))) := by
  unfold Con
  intro mean mg mb dp un gd cn cs ca' ccd cl outer A₀ base h₀ L m s Q E B F X N T hk hdp hu hret
  obtain ⟨rest, hin, hout, D, hr, hl⟩ := UpdF.front (h₀ := h₀) (L := L) U
  replace htm := hr _ htm
  replace N := hin _ N
  refine wpAny_call ?_
  k_dflt ktr_enter
  (repeat' (first | (k_unfold; (try dsimp only)) | walk1 | (dsimp only; walk1) | (leave1; (try dsimp only)) | fail "no step"))
  all_goals
    refine' hret _ _ _ _ (.mk _ _ ?hd9) ?fr (hout _ [] _ ?nn)
    case nn => k_asm
    case fr => k_asm
    case hd9 =>
      (try dsimp only)
      first
        | (have e9 : age + 1 ≤ 6 := by omega
           rw [if_pos e9]; k_asm)
        | (have e9 : ¬ age + 1 ≤ 6 := by omega
           rw [if_neg e9]; k_asm)
def DueEnd (prog : Program) (w : World) (W : Wd) (l : List (Addr × Obj)) (g : Obj → List (Addr × Obj)) (wd tm an : Addr) (age hel : Int) (rs sel : Bool) (v : Value) (l' : List (Addr × Obj)) : Prop :=
  v = .ref wd ∧ ∃ (o' : Obj) (tm' an' : Addr) (ti tl : Tok), o'.IsDictOf (PySem.strKind prog w) (wordsW W .none ti tl tm' an') ∧
    ((tm' = tm ∧ an' = an ∧ W.age = age ∧ W.hel = hel ∧ W.rs = rs ∧ W.sel = sel ∧ l' = g o') ∨ ∃ (q1 q2 q3 q4 : Tok), NewA [an', tm'] l ∧ l' = (an', tupO [.bool W.rs, .bool W.sel]) :: (tm', tupO [.int W.age q1, .int 6 q2, .int W.hel q3, .int 9 q4]) :: g o')
theorem DueEnd.same {prog : Program} {w : World} {W W0 : Wd} {l : List (Addr × Obj)} {g : Obj → List (Addr × Obj)} {wd tm an : Addr} {o' : Obj} {ti tl : Tok} (e : W0 = W) (hd : o'.IsDictOf (PySem.strKind prog w) (wordsW W0 .none ti tl tm an)) :
    DueEnd prog w W l g wd tm an W0.age W0.hel W0.rs W0.sel (.ref wd) (g o') := by
  subst e
  exact ⟨rfl, o', tm, an, ti, tl, hd, .inl ⟨rfl, rfl, rfl, rfl, rfl, rfl, rfl⟩⟩
theorem DueEnd.new {prog : Program} {w : World} {W W0 : Wd} {l : List (Addr × Obj)} {g : Obj → List (Addr × Obj)} {wd tm an tm0 an0 : Addr} {age hel : Int} {rs sel : Bool} {o' : Obj} {ti tl t1 t2 t3 t4 : Tok} (e : W0 = W) (hn : NewA [an, tm] l) (hd : o'.IsDictOf (PySem.strKind prog w) (wordsW W0 .none ti tl tm an)) :
    DueEnd prog w W l g wd tm0 an0 age hel rs sel (.ref wd) ((an, tupO [.bool W0.rs, .bool W0.sel]) :: (tm, tupO [.int W0.age t1, .int 6 t2, .int W0.hel t3, .int 9 t4]) :: g o') := by
  subst e
  exact ⟨rfl, o', tm, an, ti, tl, hd, .inr ⟨_, _, _, _, hn, rfl⟩⟩
theorem inf_e1 {W : Wd} {b : Bp} (h : b.rapid = true) (h2 : b.il = true) : ({ W with dis := true, ad := false } : Wd) = W_inf W b := by simp [W_inf, h, h2]
theorem inf_e2 {W : Wd} {b : Bp} (h2 : b.il = false) : W = W_inf W b := by simp [W_inf, h2]
theorem inf_e3 {W : Wd} {b : Bp} (h2 : b.rapid = false) : W = W_inf W b := by simp [W_inf, h2]
set_option maxHeartbeats 1000000 in
theorem due_sup {prog : Program} (w : World) {l lv : List (Addr × Obj)} {g : Obj → List (Addr × Obj)} {wd tm an va ba bd bv ya yd : Addr} {o : Obj} {kb : Nat → Tok} {ub : Nat → Value} {pg pp ag ad rs sel dis hea ack noti ic ik ip ia il st : Bool} {told : Value} {inf kin : Str} {rol : Value} {left : Int} {ti tl tk tK : Tok} {t1 t2 t3 t4 j1 j2 j3 j4 i1 i2 i3 i4 : Tok} {age hel ag2 he2 : Int} {X Y : Vec}
    (U : UpdF wd o l g) (hd : o.IsDictOf (PySem.strKind prog w) (wordsL pp pg ag ad dis hea told inf ti ack noti left tl va tm an)) (htm : ∀ o', (tm, tupO [.int age t1, .int 6 t2, .int hel t3, .int 9 t4]) ∈ g o') (han : ∀ o', (an, tupO [.bool rs, .bool sel]) ∈ g o')
    (h3 : ∀ o', (ba, instObj 89 bd) ∈ g o') (h4 : ∀ o', (bd, dictOf (bpduE w kb ub (.str kin tk) (.ref bv) (.ref ya) (.bool ic) (.bool ik) (.bool ip) (.bool ia) rol (.bool il)) 12) ∈ g o') (h7 : ∀ o', (ya, instObj 53 yd) ∈ g o') (h8 : ∀ o', (yd, dictOf (timesE w j1 j2 j3 j4 ag2 i1 6 i2 he2 i3 9 i4) 4) ∈ g o') (hx : IsVec lv va X) (hy : IsVec lv bv Y) (hsub : ∀ o', ∀ p ∈ lv, p ∈ g o') :
    Con prog w 14 407 [.ref wd, .str (Str.ofString "superior") tK, .ref ba, .bool st] l (DueEnd prog w (W_sup ⟨pp, pg, ag, ad, dis, hea, ack, noti, rs, sel, inf, left, va, age, hel⟩ ⟨ip, ic, ik, ia, il, kin == Str.ofString "rapid", st, bv, ag2, he2, vlt X Y⟩) l g wd tm an age hel rs sel) := by
  unfold Con
  intro mean mg mb dp un gd cn cs ca' ccd cl outer A₀ base h₀ L m s Q E B F X₀ N T hk hdp hu hret
  obtain ⟨rest, hin, hout, D, hr, hl⟩ := UpdF.front (h₀ := h₀) (L := L) U
  have htm2 := hr _ htm
  have han2 := hr _ han
  replace h3 := hr _ h3
  replace h4 := hr _ h4
  replace h7 := hr _ h7
  replace h8 := hr _ h8
  replace hx : IsVec rest va X := hx.more fun p hp => hr _ fun o' => hsub o' p hp
  replace hy : IsVec rest bv Y := hy.more fun p hp => hr _ fun o' => hsub o' p hp
  clear hsub hr
  replace N := hin _ N
  have hJ0 := JoinIs.mk (ag && ((inf == Str.ofString "received") && !(vlt X Y)))
  have hJ1 := JoinIs.mk ((inf == Str.ofString "received") && !(vlt X Y))
  have hJ2 := JoinIs.mk (ack || ik)
  have hJ3 := JoinIs.mk (hea || ic)
  have hJ4 := JoinIs.mk (pp || ip)
  refine wpAny_call ?_
  k_dflt ktr_enter
  (repeat' (first | (k_unfold; (try dsimp only)) | ((with_reducible show wpAny _ _ (call (Value.ref _) _) _ _ _); first | ((with_reducible show wpAny _ _ (call (Value.ref 400) _) _ _ _); refine' con_use (hold_c _ ?U ?hd ?htm) ?k1 ?k2 ?k3 ?k4 ?k5 ?k6 ?k7 ?k8 ?_; (case k1 => k_asm); (case k2 => k_asm); (case k3 => k_asm); (case k4 => k_asm); (case k5 => k_asm); (case U => k_updF); (case hd => k_asm); (case htm => (intro o9;(try dsimp only);k_mem)); (case k6 => first | exact rfl | assumption); (case k7 => ktr_room); (case k8 => ktr_units); refine' HoldP.ret ?_; intro o' tl' hd'; (try dsimp only at hd'); intro h' tk' F' N'; (try dsimp only at N'); (try k_sweep)) | ((with_reducible show wpAny _ _ (call (Value.ref 365) _) _ _ _); refine' con_use (less_c _ ?hx ?hy) ?k1 ?k2 ?k3 ?k4 ?k5 ?k6 ?k7 ?k8 ?_; (case k1 => k_asm); (case k2 => k_asm); (case k3 => k_asm); (case k4 => k_asm); (case k5 => k_asm); (case hx => k_all); (case hy => k_all); (case k6 => first | exact rfl | assumption); (case k7 => ktr_room); (case k8 => ktr_units); refine' Is.ret ?_; intro h' tk' F' N'; (try dsimp only at N'); (try k_sweep))) | ((with_reducible show wpAny _ _ (eval (PySem.Expr.BoolOp _ _ _) _) _ _ _); (with_reducible rename JoinIs _ => hJ); (refine' joinH hJ ?k1 ?k2 ?k3 ?_; (case k1 => k_asm); (case k2 => k_asm)); (all_goals clear hJ); (case k3 => ((repeat' (first | (k_unfold; (try dsimp only)) | ((with_reducible show wpAny _ _ (call (Value.ref _) _) _ _ _); first | ((with_reducible show wpAny _ _ (call (Value.ref 128) _) _ _ _); refine' con_use (ib_c _ ?h1 ?h2 ?hx ?hy) ?k1 ?k2 ?k3 ?k4 ?k5 ?k6 ?k7 ?k8 ?_; (case k1 => k_asm); (case k2 => k_asm); (case k3 => k_asm); (case k4 => k_asm); (case k5 => k_asm); (case h1 => k_mem); (case h2 => k_mem); (case hx => k_all); (case hy => k_all); (case k6 => first | exact rfl | assumption); (case k7 => ktr_room); (case k8 => ktr_units); refine' Is.ret ?_; intro h' tk' F' N'; (try dsimp only at N'); (try k_sweep)) | ((with_reducible show wpAny _ _ (call (Value.ref 365) _) _ _ _); refine' con_use (less_c _ ?hx ?hy) ?k1 ?k2 ?k3 ?k4 ?k5 ?k6 ?k7 ?k8 ?_; (case k1 => k_asm); (case k2 => k_asm); (case k3 => k_asm); (case k4 => k_asm); (case k5 => k_asm); (case hx => k_all); (case hy => k_all); (case k6 => first | exact rfl | assumption); (case k7 => ktr_room); (case k8 => ktr_units); refine' Is.ret ?_; intro h' tk' F' N'; (try dsimp only at N'); (try k_sweep))) | walk1 | (dsimp only; walk1) | (leave1; (try dsimp only)) | fail "no step")); all_goals (refine' PostJ.of ?e9 ?f9 ?n9; (case f9 => k_asm); (case n9 => k_asm); (case e9 => first | exact bj1 (by assumption) | exact bj2 (by assumption) | exact bj3 (by assumption) | exact bj4 (by assumption) | exact bj5 (by assumption) (by assumption) | exact bj6 (by assumption) (by assumption) | exact bj7 (by assumption) | exact rfl)))); intro h' tk' F' N'; (try k_sweep)) | walk1 | (dsimp only; walk1) | (leave1; (try dsimp only)) | fail "no step"))
  (with_reducible rename Apart _ _ => hD)
  refine' hret _ _ _ _ (DueEnd.new rfl (NewA.of hD ?sb hl) ?hd9) ?fr (hout _ [_, _] _ (News.subl ?n0 ?n1))
  case hd9 => k_asm
  case fr => k_asm
  case n0 => k_asm
  case n1 => k_mem
  case sb => simp only [List.cons_append, List.nil_append]; k_mem
set_option maxHeartbeats 1000000 in
theorem due_rep {prog : Program} (w : World) {l lv : List (Addr × Obj)} {g : Obj → List (Addr × Obj)} {wd tm an va ba bd bv ya yd : Addr} {o : Obj} {kb : Nat → Tok} {ub : Nat → Value} {pg pp ag ad rs sel dis hea ack noti ic ik ip ia il st : Bool} {told : Value} {inf kin : Str} {rol : Value} {left : Int} {ti tl tk tK : Tok} {t1 t2 t3 t4 j1 j2 j3 j4 i1 i2 i3 i4 : Tok} {age hel ag2 he2 : Int} {X Y : Vec}
    (U : UpdF wd o l g) (hd : o.IsDictOf (PySem.strKind prog w) (wordsL pp pg ag ad dis hea told inf ti ack noti left tl va tm an)) (htm : ∀ o', (tm, tupO [.int age t1, .int 6 t2, .int hel t3, .int 9 t4]) ∈ g o') (han : ∀ o', (an, tupO [.bool rs, .bool sel]) ∈ g o')
    (h3 : ∀ o', (ba, instObj 89 bd) ∈ g o') (h4 : ∀ o', (bd, dictOf (bpduE w kb ub (.str kin tk) (.ref bv) (.ref ya) (.bool ic) (.bool ik) (.bool ip) (.bool ia) rol (.bool il)) 12) ∈ g o') (h7 : ∀ o', (ya, instObj 53 yd) ∈ g o') (h8 : ∀ o', (yd, dictOf (timesE w j1 j2 j3 j4 ag2 i1 6 i2 he2 i3 9 i4) 4) ∈ g o') (hx : IsVec lv va X) (hy : IsVec lv bv Y) (hsub : ∀ o', ∀ p ∈ lv, p ∈ g o') :
    Con prog w 14 407 [.ref wd, .str (Str.ofString "repeated") tK, .ref ba, .bool st] l (DueEnd prog w (W_rep ⟨pp, pg, ag, ad, dis, hea, ack, noti, rs, sel, inf, left, va, age, hel⟩ ⟨ip, ic, ik, ia, il, kin == Str.ofString "rapid", st, bv, ag2, he2, vlt X Y⟩) l g wd tm an age hel rs sel) := by
  unfold Con
  intro mean mg mb dp un gd cn cs ca' ccd cl outer A₀ base h₀ L m s Q E B F X₀ N T hk hdp hu hret
  obtain ⟨rest, hin, hout, D, hr, hl⟩ := UpdF.front (h₀ := h₀) (L := L) U
  have htm2 := hr _ htm
  have han2 := hr _ han
  replace h3 := hr _ h3
  replace h4 := hr _ h4
  replace h7 := hr _ h7
  replace h8 := hr _ h8
  replace hx : IsVec rest va X := hx.more fun p hp => hr _ fun o' => hsub o' p hp
  replace hy : IsVec rest bv Y := hy.more fun p hp => hr _ fun o' => hsub o' p hp
  clear hsub hr
  replace N := hin _ N
  have hJ0 := JoinIs.mk (ack || ik)
  have hJ1 := JoinIs.mk (hea || ic)
  have hJ2 := JoinIs.mk (pp || ip)
  refine wpAny_call ?_
  k_dflt ktr_enter
  (repeat' (first | (k_unfold; (try dsimp only)) | ((with_reducible show wpAny _ _ (call (Value.ref _) _) _ _ _); first | ((with_reducible show wpAny _ _ (call (Value.ref 400) _) _ _ _); refine' con_use (hold_c _ ?U ?hd ?htm) ?k1 ?k2 ?k3 ?k4 ?k5 ?k6 ?k7 ?k8 ?_; (case k1 => k_asm); (case k2 => k_asm); (case k3 => k_asm); (case k4 => k_asm); (case k5 => k_asm); (case U => k_updF); (case hd => k_asm); (case htm => (intro o9;(try dsimp only);k_mem)); (case k6 => first | exact rfl | assumption); (case k7 => ktr_room); (case k8 => ktr_units); refine' HoldP.ret ?_; intro o' tl' hd'; (try dsimp only at hd'); intro h' tk' F' N'; (try dsimp only at N'); (try k_sweep)) | ((with_reducible show wpAny _ _ (call (Value.ref 365) _) _ _ _); refine' con_use (less_c _ ?hx ?hy) ?k1 ?k2 ?k3 ?k4 ?k5 ?k6 ?k7 ?k8 ?_; (case k1 => k_asm); (case k2 => k_asm); (case k3 => k_asm); (case k4 => k_asm); (case k5 => k_asm); (case hx => k_all); (case hy => k_all); (case k6 => first | exact rfl | assumption); (case k7 => ktr_room); (case k8 => ktr_units); refine' Is.ret ?_; intro h' tk' F' N'; (try dsimp only at N'); (try k_sweep))) | ((with_reducible show wpAny _ _ (eval (PySem.Expr.BoolOp _ _ _) _) _ _ _); (with_reducible rename JoinIs _ => hJ); (refine' joinH hJ ?k1 ?k2 ?k3 ?_; (case k1 => k_asm); (case k2 => k_asm)); (all_goals clear hJ); (case k3 => ((repeat' (first | (k_unfold; (try dsimp only)) | ((with_reducible show wpAny _ _ (call (Value.ref _) _) _ _ _); first | ((with_reducible show wpAny _ _ (call (Value.ref 128) _) _ _ _); refine' con_use (ib_c _ ?h1 ?h2 ?hx ?hy) ?k1 ?k2 ?k3 ?k4 ?k5 ?k6 ?k7 ?k8 ?_; (case k1 => k_asm); (case k2 => k_asm); (case k3 => k_asm); (case k4 => k_asm); (case k5 => k_asm); (case h1 => k_mem); (case h2 => k_mem); (case hx => k_all); (case hy => k_all); (case k6 => first | exact rfl | assumption); (case k7 => ktr_room); (case k8 => ktr_units); refine' Is.ret ?_; intro h' tk' F' N'; (try dsimp only at N'); (try k_sweep)) | ((with_reducible show wpAny _ _ (call (Value.ref 365) _) _ _ _); refine' con_use (less_c _ ?hx ?hy) ?k1 ?k2 ?k3 ?k4 ?k5 ?k6 ?k7 ?k8 ?_; (case k1 => k_asm); (case k2 => k_asm); (case k3 => k_asm); (case k4 => k_asm); (case k5 => k_asm); (case hx => k_all); (case hy => k_all); (case k6 => first | exact rfl | assumption); (case k7 => ktr_room); (case k8 => ktr_units); refine' Is.ret ?_; intro h' tk' F' N'; (try dsimp only at N'); (try k_sweep))) | walk1 | (dsimp only; walk1) | (leave1; (try dsimp only)) | fail "no step")); all_goals (refine' PostJ.of ?e9 ?f9 ?n9; (case f9 => k_asm); (case n9 => k_asm); (case e9 => first | exact bj1 (by assumption) | exact bj2 (by assumption) | exact bj3 (by assumption) | exact bj4 (by assumption) | exact bj5 (by assumption) (by assumption) | exact bj6 (by assumption) (by assumption) | exact bj7 (by assumption) | exact rfl)))); intro h' tk' F' N'; (try k_sweep)) | walk1 | (dsimp only; walk1) | (leave1; (try dsimp only)) | fail "no step"))
  refine' hret _ _ _ _ (DueEnd.same rfl ?hd9) ?fr (hout _ [] _ (News.subl ?n0 ?n1))
  case hd9 => k_asm
  case fr => k_asm
  case n0 => k_asm
  case n1 => k_mem
set_option maxHeartbeats 1000000 in
theorem due_inf {prog : Program} (w : World) {l lv : List (Addr × Obj)} {g : Obj → List (Addr × Obj)} {wd tm an va ba bd bv ya yd : Addr} {o : Obj} {kb : Nat → Tok} {ub : Nat → Value} {pg pp ag ad rs sel dis hea ack noti ic ik ip ia il st : Bool} {told : Value} {inf kin : Str} {rol : Value} {left : Int} {ti tl tk tK : Tok} {t1 t2 t3 t4 j1 j2 j3 j4 i1 i2 i3 i4 : Tok} {age hel ag2 he2 : Int} {X Y : Vec}
    (U : UpdF wd o l g) (hd : o.IsDictOf (PySem.strKind prog w) (wordsL pp pg ag ad dis hea told inf ti ack noti left tl va tm an)) (htm : ∀ o', (tm, tupO [.int age t1, .int 6 t2, .int hel t3, .int 9 t4]) ∈ g o') (han : ∀ o', (an, tupO [.bool rs, .bool sel]) ∈ g o')
    (h3 : ∀ o', (ba, instObj 89 bd) ∈ g o') (h4 : ∀ o', (bd, dictOf (bpduE w kb ub (.str kin tk) (.ref bv) (.ref ya) (.bool ic) (.bool ik) (.bool ip) (.bool ia) rol (.bool il)) 12) ∈ g o') (h7 : ∀ o', (ya, instObj 53 yd) ∈ g o') (h8 : ∀ o', (yd, dictOf (timesE w j1 j2 j3 j4 ag2 i1 6 i2 he2 i3 9 i4) 4) ∈ g o') (hx : IsVec lv va X) (hy : IsVec lv bv Y) (hsub : ∀ o', ∀ p ∈ lv, p ∈ g o') :
    Con prog w 14 407 [.ref wd, .str (Str.ofString "inferior") tK, .ref ba, .bool st] l (DueEnd prog w (W_inf ⟨pp, pg, ag, ad, dis, hea, ack, noti, rs, sel, inf, left, va, age, hel⟩ ⟨ip, ic, ik, ia, il, kin == Str.ofString "rapid", st, bv, ag2, he2, vlt X Y⟩) l g wd tm an age hel rs sel) := by
  unfold Con
  intro mean mg mb dp un gd cn cs ca' ccd cl outer A₀ base h₀ L m s Q E B F X₀ N T hk hdp hu hret
  obtain ⟨rest, hin, hout, D, hr, hl⟩ := UpdF.front (h₀ := h₀) (L := L) U
  have htm2 := hr _ htm
  have han2 := hr _ han
  replace h3 := hr _ h3
  replace h4 := hr _ h4
  replace h7 := hr _ h7
  replace h8 := hr _ h8
  replace hx : IsVec rest va X := hx.more fun p hp => hr _ fun o' => hsub o' p hp
  replace hy : IsVec rest bv Y := hy.more fun p hp => hr _ fun o' => hsub o' p hp
  clear hsub hr
  replace N := hin _ N
  refine wpAny_call ?_
  k_dflt ktr_enter
  (repeat' (first | (k_unfold; (try dsimp only)) | ((with_reducible show wpAny _ _ (call (Value.ref _) _) _ _ _); first | ((with_reducible show wpAny _ _ (call (Value.ref 400) _) _ _ _); refine' con_use (hold_c _ ?U ?hd ?htm) ?k1 ?k2 ?k3 ?k4 ?k5 ?k6 ?k7 ?k8 ?_; (case k1 => k_asm); (case k2 => k_asm); (case k3 => k_asm); (case k4 => k_asm); (case k5 => k_asm); (case U => k_updF); (case hd => k_asm); (case htm => (intro o9;(try dsimp only);k_mem)); (case k6 => first | exact rfl | assumption); (case k7 => ktr_room); (case k8 => ktr_units); refine' HoldP.ret ?_; intro o' tl' hd'; (try dsimp only at hd'); intro h' tk' F' N'; (try dsimp only at N'); (try k_sweep)) | ((with_reducible show wpAny _ _ (call (Value.ref 365) _) _ _ _); refine' con_use (less_c _ ?hx ?hy) ?k1 ?k2 ?k3 ?k4 ?k5 ?k6 ?k7 ?k8 ?_; (case k1 => k_asm); (case k2 => k_asm); (case k3 => k_asm); (case k4 => k_asm); (case k5 => k_asm); (case hx => k_all); (case hy => k_all); (case k6 => first | exact rfl | assumption); (case k7 => ktr_room); (case k8 => ktr_units); refine' Is.ret ?_; intro h' tk' F' N'; (try dsimp only at N'); (try k_sweep))) | ((with_reducible show wpAny _ _ (eval (PySem.Expr.BoolOp _ _ _) _) _ _ _); (with_reducible rename JoinIs _ => hJ); (refine' joinH hJ ?k1 ?k2 ?k3 ?_; (case k1 => k_asm); (case k2 => k_asm)); (all_goals clear hJ); (case k3 => ((repeat' (first | (k_unfold; (try dsimp only)) | ((with_reducible show wpAny _ _ (call (Value.ref _) _) _ _ _); first | ((with_reducible show wpAny _ _ (call (Value.ref 128) _) _ _ _); refine' con_use (ib_c _ ?h1 ?h2 ?hx ?hy) ?k1 ?k2 ?k3 ?k4 ?k5 ?k6 ?k7 ?k8 ?_; (case k1 => k_asm); (case k2 => k_asm); (case k3 => k_asm); (case k4 => k_asm); (case k5 => k_asm); (case h1 => k_mem); (case h2 => k_mem); (case hx => k_all); (case hy => k_all); (case k6 => first | exact rfl | assumption); (case k7 => ktr_room); (case k8 => ktr_units); refine' Is.ret ?_; intro h' tk' F' N'; (try dsimp only at N'); (try k_sweep)) | ((with_reducible show wpAny _ _ (call (Value.ref 365) _) _ _ _); refine' con_use (less_c _ ?hx ?hy) ?k1 ?k2 ?k3 ?k4 ?k5 ?k6 ?k7 ?k8 ?_; (case k1 => k_asm); (case k2 => k_asm); (case k3 => k_asm); (case k4 => k_asm); (case k5 => k_asm); (case hx => k_all); (case hy => k_all); (case k6 => first | exact rfl | assumption); (case k7 => ktr_room); (case k8 => ktr_units); refine' Is.ret ?_; intro h' tk' F' N'; (try dsimp only at N'); (try k_sweep))) | walk1 | (dsimp only; walk1) | (leave1; (try dsimp only)) | fail "no step")); all_goals (refine' PostJ.of ?e9 ?f9 ?n9; (case f9 => k_asm); (case n9 => k_asm); (case e9 => first | exact bj1 (by assumption) | exact bj2 (by assumption) | exact bj3 (by assumption) | exact bj4 (by assumption) | exact bj5 (by assumption) (by assumption) | exact bj6 (by assumption) (by assumption) | exact bj7 (by assumption) | exact rfl)))); intro h' tk' F' N'; (try k_sweep)) | walk1 | (dsimp only; walk1) | (leave1; (try dsimp only)) | fail "no step"))
  all_goals
    first
      | refine' hret _ _ _ _ (DueEnd.same (inf_e1 (by assumption) (by assumption)) ?hd9) ?fr (hout _ [] _ (News.subl ?n0 ?n1))
      | refine' hret _ _ _ _ (DueEnd.same (inf_e2 (by assumption)) ?hd9) ?fr (hout _ [] _ (News.subl ?n0 ?n1))
      | refine' hret _ _ _ _ (DueEnd.same (inf_e3 (by assumption)) ?hd9) ?fr (hout _ [] _ (News.subl ?n0 ?n1))
    case hd9 => k_asm
    case fr => k_asm
    case n0 => k_asm
    case n1 => k_mem
set_option maxHeartbeats 1000000 in
theorem due_ans {prog : Program} (w : World) {l lv : List (Addr × Obj)} {g : Obj → List (Addr × Obj)} {wd tm an va ba bd bv ya yd : Addr} {o : Obj} {kb : Nat → Tok} {ub : Nat → Value} {pg pp ag ad rs sel dis hea ack noti ic ik ip ia il st : Bool} {told : Value} {inf kin : Str} {rol : Value} {left : Int} {ti tl tk tK : Tok} {t1 t2 t3 t4 j1 j2 j3 j4 i1 i2 i3 i4 : Tok} {age hel ag2 he2 : Int} {X Y : Vec}
    (U : UpdF wd o l g) (hd : o.IsDictOf (PySem.strKind prog w) (wordsL pp pg ag ad dis hea told inf ti ack noti left tl va tm an)) (htm : ∀ o', (tm, tupO [.int age t1, .int 6 t2, .int hel t3, .int 9 t4]) ∈ g o') (han : ∀ o', (an, tupO [.bool rs, .bool sel]) ∈ g o')
    (h3 : ∀ o', (ba, instObj 89 bd) ∈ g o') (h4 : ∀ o', (bd, dictOf (bpduE w kb ub (.str kin tk) (.ref bv) (.ref ya) (.bool ic) (.bool ik) (.bool ip) (.bool ia) rol (.bool il)) 12) ∈ g o') (h7 : ∀ o', (ya, instObj 53 yd) ∈ g o') (h8 : ∀ o', (yd, dictOf (timesE w j1 j2 j3 j4 ag2 i1 6 i2 he2 i3 9 i4) 4) ∈ g o') (hx : IsVec lv va X) (hy : IsVec lv bv Y) (hsub : ∀ o', ∀ p ∈ lv, p ∈ g o') :
    Con prog w 14 407 [.ref wd, .str (Str.ofString "answer") tK, .ref ba, .bool st] l (DueEnd prog w (W_ans ⟨pp, pg, ag, ad, dis, hea, ack, noti, rs, sel, inf, left, va, age, hel⟩ ⟨ip, ic, ik, ia, il, kin == Str.ofString "rapid", st, bv, ag2, he2, vlt X Y⟩) l g wd tm an age hel rs sel) := by
  unfold Con
  intro mean mg mb dp un gd cn cs ca' ccd cl outer A₀ base h₀ L m s Q E B F X₀ N T hk hdp hu hret
  obtain ⟨rest, hin, hout, D, hr, hl⟩ := UpdF.front (h₀ := h₀) (L := L) U
  have htm2 := hr _ htm
  have han2 := hr _ han
  replace h3 := hr _ h3
  replace h4 := hr _ h4
  replace h7 := hr _ h7
  replace h8 := hr _ h8
  replace hx : IsVec rest va X := hx.more fun p hp => hr _ fun o' => hsub o' p hp
  replace hy : IsVec rest bv Y := hy.more fun p hp => hr _ fun o' => hsub o' p hp
  clear hsub hr
  replace N := hin _ N
  have hJ0 := JoinIs.mk (pg && !(st && (kin == Str.ofString "rapid") && ia))
  have hJ1 := JoinIs.mk (st && (kin == Str.ofString "rapid") && ia)
  have hJ2 := JoinIs.mk (ack || ik)
  have hJ3 := JoinIs.mk (hea || ic)
  refine wpAny_call ?_
  k_dflt ktr_enter
  (repeat' (first | (k_unfold; (try dsimp only)) | ((with_reducible show wpAny _ _ (call (Value.ref _) _) _ _ _); first | ((with_reducible show wpAny _ _ (call (Value.ref 400) _) _ _ _); refine' con_use (hold_c _ ?U ?hd ?htm) ?k1 ?k2 ?k3 ?k4 ?k5 ?k6 ?k7 ?k8 ?_; (case k1 => k_asm); (case k2 => k_asm); (case k3 => k_asm); (case k4 => k_asm); (case k5 => k_asm); (case U => k_updF); (case hd => k_asm); (case htm => (intro o9;(try dsimp only);k_mem)); (case k6 => first | exact rfl | assumption); (case k7 => ktr_room); (case k8 => ktr_units); refine' HoldP.ret ?_; intro o' tl' hd'; (try dsimp only at hd'); intro h' tk' F' N'; (try dsimp only at N'); (try k_sweep)) | ((with_reducible show wpAny _ _ (call (Value.ref 365) _) _ _ _); refine' con_use (less_c _ ?hx ?hy) ?k1 ?k2 ?k3 ?k4 ?k5 ?k6 ?k7 ?k8 ?_; (case k1 => k_asm); (case k2 => k_asm); (case k3 => k_asm); (case k4 => k_asm); (case k5 => k_asm); (case hx => k_all); (case hy => k_all); (case k6 => first | exact rfl | assumption); (case k7 => ktr_room); (case k8 => ktr_units); refine' Is.ret ?_; intro h' tk' F' N'; (try dsimp only at N'); (try k_sweep))) | ((with_reducible show wpAny _ _ (eval (PySem.Expr.BoolOp _ _ _) _) _ _ _); (with_reducible rename JoinIs _ => hJ); (refine' joinH hJ ?k1 ?k2 ?k3 ?_; (case k1 => k_asm); (case k2 => k_asm)); (all_goals clear hJ); (case k3 => ((repeat' (first | (k_unfold; (try dsimp only)) | ((with_reducible show wpAny _ _ (call (Value.ref _) _) _ _ _); first | ((with_reducible show wpAny _ _ (call (Value.ref 128) _) _ _ _); refine' con_use (ib_c _ ?h1 ?h2 ?hx ?hy) ?k1 ?k2 ?k3 ?k4 ?k5 ?k6 ?k7 ?k8 ?_; (case k1 => k_asm); (case k2 => k_asm); (case k3 => k_asm); (case k4 => k_asm); (case k5 => k_asm); (case h1 => k_mem); (case h2 => k_mem); (case hx => k_all); (case hy => k_all); (case k6 => first | exact rfl | assumption); (case k7 => ktr_room); (case k8 => ktr_units); refine' Is.ret ?_; intro h' tk' F' N'; (try dsimp only at N'); (try k_sweep)) | ((with_reducible show wpAny _ _ (call (Value.ref 365) _) _ _ _); refine' con_use (less_c _ ?hx ?hy) ?k1 ?k2 ?k3 ?k4 ?k5 ?k6 ?k7 ?k8 ?_; (case k1 => k_asm); (case k2 => k_asm); (case k3 => k_asm); (case k4 => k_asm); (case k5 => k_asm); (case hx => k_all); (case hy => k_all); (case k6 => first | exact rfl | assumption); (case k7 => ktr_room); (case k8 => ktr_units); refine' Is.ret ?_; intro h' tk' F' N'; (try dsimp only at N'); (try k_sweep))) | walk1 | (dsimp only; walk1) | (leave1; (try dsimp only)) | fail "no step")); all_goals (refine' PostJ.of ?e9 ?f9 ?n9; (case f9 => k_asm); (case n9 => k_asm); (case e9 => first | exact bj1 (by assumption) | exact bj2 (by assumption) | exact bj3 (by assumption) | exact bj4 (by assumption) | exact bj5 (by assumption) (by assumption) | exact bj6 (by assumption) (by assumption) | exact bj7 (by assumption) | exact rfl)))); intro h' tk' F' N'; (try k_sweep)) | walk1 | (dsimp only; walk1) | (leave1; (try dsimp only)) | fail "no step"))
  refine' hret _ _ _ _ (DueEnd.same rfl ?hd9) ?fr (hout _ [] _ (News.subl ?n0 ?n1))
  case hd9 => k_asm
  case fr => k_asm
  case n0 => k_asm
  case n1 => k_mem
set_option maxHeartbeats 1000000 in
theorem due_oth {prog : Program} (w : World) {l lv : List (Addr × Obj)} {g : Obj → List (Addr × Obj)} {wd tm an va ba bd bv ya yd : Addr} {o : Obj} {kb : Nat → Tok} {ub : Nat → Value} {pg pp ag ad rs sel dis hea ack noti ic ik ip ia il st : Bool} {told : Value} {inf kin : Str} {rol : Value} {left : Int} {ti tl tk tK : Tok} {t1 t2 t3 t4 j1 j2 j3 j4 i1 i2 i3 i4 : Tok} {age hel ag2 he2 : Int} {X Y : Vec}
    (U : UpdF wd o l g) (hd : o.IsDictOf (PySem.strKind prog w) (wordsL pp pg ag ad dis hea told inf ti ack noti left tl va tm an)) (htm : ∀ o', (tm, tupO [.int age t1, .int 6 t2, .int hel t3, .int 9 t4]) ∈ g o') (han : ∀ o', (an, tupO [.bool rs, .bool sel]) ∈ g o')
    (h3 : ∀ o', (ba, instObj 89 bd) ∈ g o') (h4 : ∀ o', (bd, dictOf (bpduE w kb ub (.str kin tk) (.ref bv) (.ref ya) (.bool ic) (.bool ik) (.bool ip) (.bool ia) rol (.bool il)) 12) ∈ g o') (h7 : ∀ o', (ya, instObj 53 yd) ∈ g o') (h8 : ∀ o', (yd, dictOf (timesE w j1 j2 j3 j4 ag2 i1 6 i2 he2 i3 9 i4) 4) ∈ g o') (hx : IsVec lv va X) (hy : IsVec lv bv Y) (hsub : ∀ o', ∀ p ∈ lv, p ∈ g o') :
    Con prog w 14 407 [.ref wd, .str (Str.ofString "other") tK, .ref ba, .bool st] l (DueEnd prog w (⟨pp, pg, ag, ad, dis, hea, ack, noti, rs, sel, inf, left, va, age, hel⟩) l g wd tm an age hel rs sel) := by
  unfold Con
  intro mean mg mb dp un gd cn cs ca' ccd cl outer A₀ base h₀ L m s Q E B F X₀ N T hk hdp hu hret
  obtain ⟨rest, hin, hout, D, hr, hl⟩ := UpdF.front (h₀ := h₀) (L := L) U
  have htm2 := hr _ htm
  have han2 := hr _ han
  replace h3 := hr _ h3
  replace h4 := hr _ h4
  replace h7 := hr _ h7
  replace h8 := hr _ h8
  replace hx : IsVec rest va X := hx.more fun p hp => hr _ fun o' => hsub o' p hp
  replace hy : IsVec rest bv Y := hy.more fun p hp => hr _ fun o' => hsub o' p hp
  clear hsub hr
  replace N := hin _ N
  refine wpAny_call ?_
  k_dflt ktr_enter
  (repeat' (first | (k_unfold; (try dsimp only)) | ((with_reducible show wpAny _ _ (call (Value.ref _) _) _ _ _); first | ((with_reducible show wpAny _ _ (call (Value.ref 400) _) _ _ _); refine' con_use (hold_c _ ?U ?hd ?htm) ?k1 ?k2 ?k3 ?k4 ?k5 ?k6 ?k7 ?k8 ?_; (case k1 => k_asm); (case k2 => k_asm); (case k3 => k_asm); (case k4 => k_asm); (case k5 => k_asm); (case U => k_updF); (case hd => k_asm); (case htm => (intro o9;(try dsimp only);k_mem)); (case k6 => first | exact rfl | assumption); (case k7 => ktr_room); (case k8 => ktr_units); refine' HoldP.ret ?_; intro o' tl' hd'; (try dsimp only at hd'); intro h' tk' F' N'; (try dsimp only at N'); (try k_sweep)) | ((with_reducible show wpAny _ _ (call (Value.ref 365) _) _ _ _); refine' con_use (less_c _ ?hx ?hy) ?k1 ?k2 ?k3 ?k4 ?k5 ?k6 ?k7 ?k8 ?_; (case k1 => k_asm); (case k2 => k_asm); (case k3 => k_asm); (case k4 => k_asm); (case k5 => k_asm); (case hx => k_all); (case hy => k_all); (case k6 => first | exact rfl | assumption); (case k7 => ktr_room); (case k8 => ktr_units); refine' Is.ret ?_; intro h' tk' F' N'; (try dsimp only at N'); (try k_sweep))) | ((with_reducible show wpAny _ _ (eval (PySem.Expr.BoolOp _ _ _) _) _ _ _); (with_reducible rename JoinIs _ => hJ); (refine' joinH hJ ?k1 ?k2 ?k3 ?_; (case k1 => k_asm); (case k2 => k_asm)); (all_goals clear hJ); (case k3 => ((repeat' (first | (k_unfold; (try dsimp only)) | ((with_reducible show wpAny _ _ (call (Value.ref _) _) _ _ _); first | ((with_reducible show wpAny _ _ (call (Value.ref 128) _) _ _ _); refine' con_use (ib_c _ ?h1 ?h2 ?hx ?hy) ?k1 ?k2 ?k3 ?k4 ?k5 ?k6 ?k7 ?k8 ?_; (case k1 => k_asm); (case k2 => k_asm); (case k3 => k_asm); (case k4 => k_asm); (case k5 => k_asm); (case h1 => k_mem); (case h2 => k_mem); (case hx => k_all); (case hy => k_all); (case k6 => first | exact rfl | assumption); (case k7 => ktr_room); (case k8 => ktr_units); refine' Is.ret ?_; intro h' tk' F' N'; (try dsimp only at N'); (try k_sweep)) | ((with_reducible show wpAny _ _ (call (Value.ref 365) _) _ _ _); refine' con_use (less_c _ ?hx ?hy) ?k1 ?k2 ?k3 ?k4 ?k5 ?k6 ?k7 ?k8 ?_; (case k1 => k_asm); (case k2 => k_asm); (case k3 => k_asm); (case k4 => k_asm); (case k5 => k_asm); (case hx => k_all); (case hy => k_all); (case k6 => first | exact rfl | assumption); (case k7 => ktr_room); (case k8 => ktr_units); refine' Is.ret ?_; intro h' tk' F' N'; (try dsimp only at N'); (try k_sweep))) | walk1 | (dsimp only; walk1) | (leave1; (try dsimp only)) | fail "no step")); all_goals (refine' PostJ.of ?e9 ?f9 ?n9; (case f9 => k_asm); (case n9 => k_asm); (case e9 => first | exact bj1 (by assumption) | exact bj2 (by assumption) | exact bj3 (by assumption) | exact bj4 (by assumption) | exact bj5 (by assumption) (by assumption) | exact bj6 (by assumption) (by assumption) | exact bj7 (by assumption) | exact rfl)))); intro h' tk' F' N'; (try k_sweep)) | walk1 | (dsimp only; walk1) | (leave1; (try dsimp only)) | fail "no step"))
  refine' hret _ _ _ _ (DueEnd.same rfl ?hd9) ?fr (hout _ [] _ (News.subl ?n0 ?n1))
  case hd9 => k_asm
  case fr => k_asm
  case n0 => k_asm
  case n1 => k_mem

set_option maxHeartbeats 1000000 in
theorem toldn_c {prog : Program} (w : World) {rest : List (Addr × Obj)} {pa pd ra ta td ca cd va xa ba bd : Addr} {k kt kc kb : Nat → Tok} {u ut uc ub : Nat → Value} {pg pp ag ad rs sel dis hea ack noti : Bool} {b2 b3 b4 b5 b6 b7 b8 b9 : Value} {inf : Str} {left : Int} {ti tl tk : Tok}
    (D0 : Apart [cd, td, pd] rest) (h1 : (pa, instObj 321 pd) ∈ rest) (hca : (ca, instObj 272 cd) ∈ rest) (h3 : (ba, instObj 89 bd) ∈ rest) (h4 : (bd, dictOf (bpduE w kb ub (.str (Str.ofString "change") tk) b2 b3 b4 b5 b6 b7 b8 b9) 12) ∈ rest) :
    Con prog w 3 177 [.ref pa] (cdL w cd kc uc hea ack noti :: tdL w td kt ut left tl :: pdL w pd k u ra ta ca (.ref ba) inf ti va xa pg pp ag ad rs sel dis :: rest)
      (Is .none (cdL w cd kc uc hea ack true :: tdL w td kt ut left tl :: pdL w pd k u ra ta ca .none inf ti va xa pg pp ag ad rs sel dis :: rest)) := by
  unfold Con
  intro mean mg mb dp un gd cn cs ca' ccd cl outer A₀ base h₀ L m s Q E B F X₀ N T hk hd hu hret
  have D := D0
  clear D0
  refine wpAny_call ?_
  k_dflt ktr_enter
  (repeat' (first | (k_unfold; (try dsimp only)) | ((with_reducible show wpAny _ _ (call (Value.ref _) _) _ _ _); first | ((with_reducible show wpAny _ _ (call (Value.ref 121) _) _ _ _); refine' con_use (heard_c _ ?h1 ?h2 ?h3 ?h4 ?h7 ?h8 ?h5 ?h6 ?hx ?hy) ?k1 ?k2 ?k3 ?k4 ?k5 ?k6 ?k7 ?k8 ?_; (case k1 => k_asm); (case k2 => k_asm); (case k3 => k_asm); (case k4 => k_asm); (case k5 => k_asm); (case h1 => k_mem); (case h2 => k_mem); (case h3 => k_mem); (case h4 => k_mem); (case h7 => k_mem); (case h8 => k_mem); (case h5 => k_mem); (case h6 => k_mem); (case hx => k_all); (case hy => k_all); (case k6 => first | exact rfl | assumption); (case k7 => ktr_room); (case k8 => ktr_units); refine' KindP.ret ?_; intro t9; intro h' tk' F' N'; (try dsimp only at N'); (try k_sweep)) | ((with_reducible show wpAny _ _ (call (Value.ref 170) _) _ _ _); refine' con_use (sup_c _ ?D0 ?h1 ?hta ?hca ?h3 ?h4 ?h7 ?h8 ?hx ?hy) ?k1 ?k2 ?k3 ?k4 ?k5 ?k6 ?k7 ?k8 ?_; (case k1 => k_asm); (case k2 => k_asm); (case k3 => k_asm); (case k4 => (refine' News.subl ?n0 ?n1; (case n0 => k_asm); (case n1 => k_mem))); (case k5 => k_asm); (case D0 => exact Apart.sub (by assumption) (by k_mem)); (case h1 => k_mem); (case hta => k_mem); (case hca => k_mem); (case h3 => k_mem); (case h4 => k_mem); (case h7 => k_mem); (case h8 => k_mem); (case hx => k_all); (case hy => k_all); (case k6 => first | exact rfl | assumption); (case k7 => ktr_room); (case k8 => ktr_units); refine' SupP.ret ?_; intro za zd q1 q2 q3 q4 q5 q6 q7 q8 tl tj hn'; (with_reducible rename Apart _ _ => hD); (have hD2 := Apart.more (Apart.sub hD (List.Sublist.cons _ (List.Sublist.refl _))) hn' rfl rfl); clear hD; dsimp only [List.cons_append, List.nil_append] at hD2; intro h' tk' F' N'; (try dsimp only at N'); (try k_sweep)) | ((with_reducible show wpAny _ _ (call (Value.ref 135) _) _ _ _); refine' con_use (rp_c _ ?U ?h1 ?h2 ?h3) ?k1 ?k2 ?k3 ?k4 ?k5 ?k6 ?k7 ?k8 ?_; (case k1 => k_asm); (case k2 => k_asm); (case k3 => k_asm); (case k4 => k_asm); (case k5 => k_asm); (case U => k_updF); (case h1 => (intro o9;(try dsimp only);k_mem)); (case h2 => (intro o9;(try dsimp only);k_mem)); (case h3 => (intro o9;(try dsimp only);k_mem)); (case k6 => first | exact rfl | assumption); (case k7 => ktr_room); (case k8 => ktr_units); refine' Is.ret ?_; intro h' tk' F' N'; (try dsimp only at N'); (try k_sweep)) | ((with_reducible show wpAny _ _ (call (Value.ref 142) _) _ _ _); refine' con_use (ra_c _ ?U ?h1 ?h2 ?h3 ?h4 ?h5) ?k1 ?k2 ?k3 ?k4 ?k5 ?k6 ?k7 ?k8 ?_; (case k1 => k_asm); (case k2 => k_asm); (case k3 => k_asm); (case k4 => k_asm); (case k5 => k_asm); (case U => k_updF); (case h1 => (intro o9;(try dsimp only);k_mem)); (case h2 => (intro o9;(try dsimp only);k_mem)); (case h3 => (intro o9;(try dsimp only);k_mem)); (case h4 => (intro o9;(try dsimp only);k_mem)); (case h5 => (intro o9;(try dsimp only);k_mem)); (case k6 => first | exact rfl | assumption); (case k7 => ktr_room); (case k8 => ktr_units); refine' Is.ret ?_; intro h' tk' F' N'; (try dsimp only at N'); (try k_sweep)) | ((with_reducible show wpAny _ _ (call (Value.ref 149) _) _ _ _); refine' con_use (rd_c _ ?U ?h1 ?h2 ?h3) ?k1 ?k2 ?k3 ?k4 ?k5 ?k6 ?k7 ?k8 ?_; (case k1 => k_asm); (case k2 => k_asm); (case k3 => k_asm); (case k4 => k_asm); (case k5 => k_asm); (case U => k_updF); (case h1 => (intro o9;(try dsimp only);k_mem)); (case h2 => (intro o9;(try dsimp only);k_mem)); (case h3 => (intro o9;(try dsimp only);k_mem)); (case k6 => first | exact rfl | assumption); (case k7 => ktr_room); (case k8 => ktr_units); refine' Is.ret ?_; intro h' tk' F' N'; (try dsimp only at N'); (try k_sweep)) | ((with_reducible show wpAny _ _ (call (Value.ref 156) _) _ _ _); refine' con_use (rc_c _ ?U ?h1 ?h2 ?h3 ?h4 ?h5) ?k1 ?k2 ?k3 ?k4 ?k5 ?k6 ?k7 ?k8 ?_; (case k1 => k_asm); (case k2 => k_asm); (case k3 => k_asm); (case k4 => k_asm); (case k5 => k_asm); (case U => k_updF); (case h1 => (intro o9;(try dsimp only);k_mem)); (case h2 => (intro o9;(try dsimp only);k_mem)); (case h3 => (intro o9;(try dsimp only);k_mem)); (case h4 => (intro o9;(try dsimp only);k_mem)); (case h5 => (intro o9;(try dsimp only);k_mem)); (case k6 => first | exact rfl | assumption); (case k7 => ktr_room); (case k8 => ktr_units); refine' Is.ret ?_; intro h' tk' F' N'; (try dsimp only at N'); (try k_sweep)) | ((with_reducible show wpAny _ _ (call (Value.ref 163) _) _ _ _); refine' con_use (ho_c _ ?U ?h1 ?h2 ?h3 ?h4 ?h5) ?k1 ?k2 ?k3 ?k4 ?k5 ?k6 ?k7 ?k8 ?_; (case k1 => k_asm); (case k2 => k_asm); (case k3 => k_asm); (case k4 => k_asm); (case k5 => k_asm); (case U => k_updF); (case h1 => (intro o9;(try dsimp only);k_mem)); (case h2 => (intro o9;(try dsimp only);k_mem)); (case h3 => (intro o9;(try dsimp only);k_mem)); (case h4 => (intro o9;(try dsimp only);k_mem)); (case h5 => (intro o9;(try dsimp only);k_mem)); (case k6 => first | exact rfl | assumption); (case k7 => ktr_room); (case k8 => ktr_units); refine' HoP.ret ?_; intro tl'; intro h' tk' F' N'; (try dsimp only at N'); (try k_sweep))) | walk1 | (dsimp only; walk1) | (leave1; (try dsimp only)) | fail "no step"))
  all_goals
    refine' hret _ _ _ _ .mk ?fr ?nn
    case fr => k_asm
    case nn =>
      refine' News.subl ?n0 ?n1
      case n0 => k_asm
      case n1 => k_mem
theorem Out.perm {x : Addr × Obj} {l l' : List (Addr × Obj)} (h : Out x l l') : List.Perm l (x :: l') := by
  induction h with
  | head => exact .refl _
  | tail _ ih => exact (List.Perm.cons _ ih).trans (.swap _ _ _)
theorem out3 {h₀ h : Heap} {L c t p : Addr} {oc ot op : Obj} {as : List Addr} {l l1 l2 l3 rest : List (Addr × Obj)} (D : Apart as rest) (e1 : l.drop as.length = rest) (e2 : (l.take as.length).map (·.1) = as) (o1 : Out (c, oc) l l1) (o2 : Out (t, ot) l1 l2) (o3 : Out (p, op) l2 l3) (hc : c ∈ as) (ht : t ∈ as) (hp : p ∈ as) (N : News h₀ L h l) :
    Apart [c, t, p] l3 ∧ News h₀ L h ((c, oc) :: (t, ot) :: (p, op) :: l3) := by
  have P : List.Perm l ((c, oc) :: (t, ot) :: (p, op) :: l3) := o1.perm.trans (.cons _ (o2.perm.trans (.cons _ o3.perm)))
  have P2 := P.map (·.1)
  have cc := (P2.count_eq c).symm.trans (D.count hc e1 e2)
  have ct := (P2.count_eq t).symm.trans (D.count ht e1 e2)
  have cp := (P2.count_eq p).symm.trans (D.count hp e1 e2)
  simp only [List.map_cons, List.count_cons, beq_self_eq_true, if_true] at cc ct cp
  have nz : ∀ a : Addr, (l3.map (·.1)).count a = 0 → ∀ q ∈ l3, q.1 ≠ a := fun a h q hq e => List.count_eq_zero.mp h (List.mem_map.mpr ⟨q, hq, e⟩)
  have n1 : c ≠ t := fun e => by subst e; (simp at cc) <;> omega
  have n2 : c ≠ p := fun e => by subst e; (simp at cc) <;> omega
  have n3 : t ≠ p := fun e => by subst e; (simp at ct) <;> omega
  refine ⟨⟨by simp [n1, n2, n3], fun a ha => nz a ?_⟩, fun q hq => N q (P.symm.subset hq)⟩
  simp only [List.mem_cons, List.not_mem_nil, or_false] at ha
  rcases ha with rfl | rfl | rfl <;> omega
theorem words_eq {prog : Program} {w : World} {A : Around} {E : Value → Shared → Prop} {s : Shared} {h₀ : Heap} {L d1 d2 : Addr} {l : List (Addr × Obj)} {o1 o2 : Obj} {pp pg ag ad dis hea ack noti rs sel : Bool} {inf : Str} {ti ti' tl tl' t1 t2 t3 t4 u1 u2 u3 u4 : Tok} {left age hel : Int} {va tm an tm' an' : Addr} {Q : Value → Shared → Prop}
    (N : News h₀ L s.heap l) (m1 : (d1, o1) ∈ l) (m2 : (d2, o2) ∈ l) (h1 : o1.IsDictOf (PySem.strKind prog w) (wordsL pp pg ag ad dis hea .none inf ti ack noti left tl va tm an)) (h2 : o2.IsDictOf (PySem.strKind prog w) (wordsL pp pg ag ad dis hea .none inf ti' ack noti left tl' va tm' an'))
    (g1 : (tm, tupO [.int age t1, .int 6 t2, .int hel t3, .int 9 t4]) ∈ l) (g2 : (tm', tupO [.int age u1, .int 6 u2, .int hel u3, .int 9 u4]) ∈ l) (f1 : (an, tupO [.bool rs, .bool sel]) ∈ l) (f2 : (an', tupO [.bool rs, .bool sel]) ∈ l)
    (lo1 : (d1 == sysModules) = false) (lo2 : (d2 == sysModules) = false) (hu : A.units + 64 < cLine) (h : Q (.bool true) s) : wpAny (model prog w) A (compareOp .Eq (.ref d1) (.ref d2)) Q E s := by
  have hu1 : A.in1.units < cLine := by have := units_in1 A; omega
  refine keq_eq (r := true) lo1 lo2 (Heap.dictOf_iff.mpr ⟨o1, (N _ m1).1, h1⟩) (Heap.dictOf_iff.mpr ⟨o2, (N _ m2).1, h2⟩) (by omega) (fun _ => ?_) ?_
  · have bb : ∀ b : Bool, PySem.SeqAt.EqAt A.in1 s (.bool b) (.bool b) true := fun b => .same _
    have ii : ∀ (z : Int) (t u : Tok), PySem.SeqAt.EqAt A.in1 s (.int z t) (.int z u) true := fun z t u => by have := PySem.SeqAt.EqAt.int_int (A := A.in1) (s := s) z t z u; rwa [beq_self_eq_true] at this
    have ss : ∀ (z : Str) (t u : Tok), PySem.SeqAt.EqAt A.in1 s (.str z t) (.str z u) true := fun z t u => by have := PySem.SeqAt.EqAt.str_str (A := A.in1) (s := s) z t z u; rwa [beq_self_eq_true] at this
    exact .hit rfl (bb _) (.hit rfl (bb _) (.hit rfl (bb _) (.hit rfl (bb _) (.hit rfl (bb _) (.hit rfl (bb _) (.hit rfl (.same _) (.hit rfl (ss _ _ _) (.hit rfl (bb _) (.hit rfl (bb _) (.hit rfl (ii _ _ _) (.hit rfl (.same _) (.hit rfl (told_eqAt N g1 g2 hu1 rfl rfl rfl rfl) (.hit rfl (anew_eqAt N f1 f2 hu1) .nil)))))))))))))
  · exact h
theorem due_c {prog : Program} (w : World) {l lv : List (Addr × Obj)} {g : Obj → List (Addr × Obj)} {wd tm an va ba bd bv ya yd : Addr} {o : Obj} {kb : Nat → Tok} {ub : Nat → Value} {pg pp ag ad rs sel dis hea ack noti ic ik ip ia il st : Bool} {told : Value} {inf kin K : Str} {rol : Value} {left : Int} {ti tl tk tK : Tok} {t1 t2 t3 t4 j1 j2 j3 j4 i1 i2 i3 i4 : Tok} {age hel ag2 he2 : Int} {X Y : Vec}
    (hK : K = Str.ofString "superior" ∨ K = Str.ofString "repeated" ∨ K = Str.ofString "inferior" ∨ K = Str.ofString "answer" ∨ K = Str.ofString "other") (U : UpdF wd o l g) (hd : o.IsDictOf (PySem.strKind prog w) (wordsL pp pg ag ad dis hea told inf ti ack noti left tl va tm an)) (htm : ∀ o', (tm, tupO [.int age t1, .int 6 t2, .int hel t3, .int 9 t4]) ∈ g o') (han : ∀ o', (an, tupO [.bool rs, .bool sel]) ∈ g o')
    (h3 : ∀ o', (ba, instObj 89 bd) ∈ g o') (h4 : ∀ o', (bd, dictOf (bpduE w kb ub (.str kin tk) (.ref bv) (.ref ya) (.bool ic) (.bool ik) (.bool ip) (.bool ia) rol (.bool il)) 12) ∈ g o') (h7 : ∀ o', (ya, instObj 53 yd) ∈ g o') (h8 : ∀ o', (yd, dictOf (timesE w j1 j2 j3 j4 ag2 i1 6 i2 he2 i3 9 i4) 4) ∈ g o') (hx : IsVec lv va X) (hy : IsVec lv bv Y) (hsub : ∀ o', ∀ p ∈ lv, p ∈ g o') :
    Con prog w 14 407 [.ref wd, .str K tK, .ref ba, .bool st] l (DueEnd prog w (dueW K ⟨pp, pg, ag, ad, dis, hea, ack, noti, rs, sel, inf, left, va, age, hel⟩ ⟨ip, ic, ik, ia, il, kin == Str.ofString "rapid", st, bv, ag2, he2, vlt X Y⟩) l g wd tm an age hel rs sel) := by
  rcases hK with rfl | rfl | rfl | rfl | rfl
  · exact due_sup w U hd htm han h3 h4 h7 h8 hx hy hsub
  · exact due_rep w U hd htm han h3 h4 h7 h8 hx hy hsub
  · exact due_inf w U hd htm han h3 h4 h7 h8 hx hy hsub
  · exact due_ans w U hd htm han h3 h4 h7 h8 hx hy hsub
  · exact due_oth w U hd htm han h3 h4 h7 h8 hx hy hsub
theorem con_mono {prog : Program} {w : World} {dep : Nat} {f : Addr} {vs : List Value} {news : List (Addr × Obj)} {Post Post' : Value → List (Addr × Obj) → Prop} (C : Con prog w dep f vs news Post) (h : ∀ v l, Post v l → ∃ l2, (∀ p ∈ l2, p ∈ l) ∧ Post' v l2) : Con prog w dep f vs news Post' := by
  intro mean mg mb dp un gd cn cs a ccd cl outer A₀ base h₀ L m s Q E B F X N T hk hd hu hret
  refine C mean mg mb dp un gd cn cs a ccd cl outer A₀ base h₀ L m s Q E B F X N T hk hd hu fun v l h' tk' hp F' N' => ?_
  obtain ⟨l2, hs, hp'⟩ := h v l hp
  exact hret v l2 h' tk' hp' F' fun q hq => N' q (hs q hq)
inductive DueP (prog : Program) (w : World) (l rest : List (Addr × Obj)) (as : List Addr) (wd : Addr) (W0 : Wd) : Value → List (Addr × Obj) → Prop
  | mk (o' : Obj) (tm' an' : Addr) (ti tl q1 q2 q3 q4 : Tok) (W : Wd) (hW : W = W0) (D : Apart (an' :: tm' :: wd :: as) rest) (hd : o'.IsDictOf (PySem.strKind prog w) (wordsW W .none ti tl tm' an')) :
    DueP prog w l rest as wd W0 (.ref wd) ((an', tupO [.bool W.rs, .bool W.sel]) :: (tm', tupO [.int W.age q1, .int 6 q2, .int W.hel q3, .int 9 q4]) :: (wd, o') :: l)
theorem DueP.ret {prog : Program} {w : World} {l rest : List (Addr × Obj)} {as : List Addr} {wd : Addr} {W0 : Wd} {R : Value → List (Addr × Obj) → Prop} (k9 : ∀ (o' : Obj) (tm' an' : Addr) (ti tl q1 q2 q3 q4 : Tok) (W : Wd) (hW : W = W0) (D : Apart (an' :: tm' :: wd :: as) rest) (hd : o'.IsDictOf (PySem.strKind prog w) (wordsW W .none ti tl tm' an')), R (.ref wd) ((an', tupO [.bool W.rs, .bool W.sel]) :: (tm', tupO [.int W.age q1, .int 6 q2, .int W.hel q3, .int 9 q4]) :: (wd, o') :: l)) : ∀ v9 l9, DueP prog w l rest as wd W0 v9 l9 → R v9 l9 := fun _ _ h9 => DueP.rec (motive := fun v9 l9 _ => R v9 l9) k9 h9
theorem due_w {prog : Program} (w : World) {l lv rest : List (Addr × Obj)} {as : List Addr} {wd tm an va ba bd bv ya yd : Addr} {o : Obj} {kb : Nat → Tok} {ub : Nat → Value} {pg pp ag ad rs sel dis hea ack noti ic ik ip ia il st : Bool} {told : Value} {inf kin K : Str} {rol : Value} {left : Int} {ti tl tk tK : Tok} {t1 t2 t3 t4 j1 j2 j3 j4 i1 i2 i3 i4 : Tok} {age hel ag2 he2 : Int} {X Y : Vec}
    (D : Apart (an :: tm :: wd :: as) rest) (e1 : l.drop as.length = rest) (e2 : (l.take as.length).map (·.1) = as)
    (hK : K = Str.ofString "superior" ∨ K = Str.ofString "repeated" ∨ K = Str.ofString "inferior" ∨ K = Str.ofString "answer" ∨ K = Str.ofString "other") (hd : o.IsDictOf (PySem.strKind prog w) (wordsL pp pg ag ad dis hea told inf ti ack noti left tl va tm an))
    (h3 : (ba, instObj 89 bd) ∈ l) (h4 : (bd, dictOf (bpduE w kb ub (.str kin tk) (.ref bv) (.ref ya) (.bool ic) (.bool ik) (.bool ip) (.bool ia) rol (.bool il)) 12) ∈ l) (h7 : (ya, instObj 53 yd) ∈ l) (h8 : (yd, dictOf (timesE w j1 j2 j3 j4 ag2 i1 6 i2 he2 i3 9 i4) 4) ∈ l) (hx : IsVec lv va X) (hy : IsVec lv bv Y) (hsub : ∀ p ∈ lv, p ∈ l) :
    Con prog w 14 407 [.ref wd, .str K tK, .ref ba, .bool st] ((an, tupO [.bool rs, .bool sel]) :: (tm, tupO [.int age t1, .int 6 t2, .int hel t3, .int 9 t4]) :: (wd, o) :: l)
      (DueP prog w l rest as wd (dueW K ⟨pp, pg, ag, ad, dis, hea, ack, noti, rs, sel, inf, left, va, age, hel⟩ ⟨ip, ic, ik, ia, il, kin == Str.ofString "rapid", st, bv, ag2, he2, vlt X Y⟩)) := by
  have U : UpdF wd o ((an, tupO [.bool rs, .bool sel]) :: (tm, tupO [.int age t1, .int 6 t2, .int hel t3, .int 9 t4]) :: (wd, o) :: l) (fun o' => (an, tupO [.bool rs, .bool sel]) :: (tm, tupO [.int age t1, .int 6 t2, .int hel t3, .int 9 t4]) :: (wd, o') :: l) :=
    updF_of D (.tail (.tail .head)) (.tail _ (.tail _ (.head _))) (by simpa using e1) (by simpa using e2)
  refine con_mono (due_c w hK U hd (fun _ => .tail _ (.head _)) (fun _ => .head _) (fun _ => .tail _ (.tail _ (.tail _ h3))) (fun _ => .tail _ (.tail _ (.tail _ h4))) (fun _ => .tail _ (.tail _ (.tail _ h7))) (fun _ => .tail _ (.tail _ (.tail _ h8))) hx hy (fun _ p hp => .tail _ (.tail _ (.tail _ (hsub p hp))))) ?_
  rintro v l' ⟨hv, o', tm', an', ti', tl', hd', h⟩
  generalize hW : dueW K _ _ = W at hd' h
  subst hv
  rcases h with ⟨rfl, rfl, rfl, rfl, rfl, rfl, rfl⟩ | ⟨q1, q2, q3, q4, hn, rfl⟩
  · exact ⟨_, fun p hp => hp, .mk o' _ _ ti' tl' t1 t2 t3 t4 W rfl D hd'⟩
  · refine ⟨_, fun p hp => ?_, .mk o' tm' an' ti' tl' q1 q2 q3 q4 W rfl ?_ hd'⟩
    · simp only [List.mem_cons] at hp ⊢
      rcases hp with hp | hp | hp | hp <;> simp [hp]
    · have D2 : Apart (wd :: as) rest := D.sub (.cons _ (.cons _ (.refl _)))
      have hn2 : NewA [an', tm'] ((wd, o) :: l) := ⟨hn.1, fun a ha p hp => hn.2 a ha p (.tail _ (.tail _ hp))⟩
      exact Apart.more D2 hn2 (by simpa using e1) (by simpa using e2)
theorem kindS_cases (kin rol : Str) (X Y : Vec) (te : Bool) : kindS kin rol X Y te = Str.ofString "superior" ∨ kindS kin rol X Y te = Str.ofString "repeated" ∨ kindS kin rol X Y te = Str.ofString "inferior" ∨ kindS kin rol X Y te = Str.ofString "answer" ∨ kindS kin rol X Y te = Str.ofString "other" := by
  unfold kindS
  generalize (kin == Str.ofString "config" || rol == Str.ofString "designated") = a
  generalize (([Str.ofString "root", Str.ofString "alternate"].any fun x => x == rol) && !vlt X Y) = b0
  generalize (([Str.ofString "root", Str.ofString "alternate"].any fun x => x == rol) && !vlt Y X) = b
  cases a <;> cases b <;> cases veq Y X <;> cases te <;> cases sbS Y X <;> simp
theorem told_use {h₀ h : Heap} {L c t p : Addr} {oc ot op : Obj} {as : List Addr} {l l1 l2 l3 rest : List (Addr × Obj)} {G : Prop} (D : Apart as rest) (e1 : l.drop as.length = rest) (e2 : (l.take as.length).map (·.1) = as) (N : News h₀ L h l) (o1 : Out (c, oc) l l1) (o2 : Out (t, ot) l1 l2) (o3 : Out (p, op) l2 l3) (hc : c ∈ as) (ht : t ∈ as) (hp : p ∈ as)
    (k : Apart [c, t, p] l3 → News h₀ L h ((c, oc) :: (t, ot) :: (p, op) :: l3) → G) : G :=
  let ⟨a, b⟩ := out3 D e1 e2 o1 o2 o3 hc ht hp N
  k a b
theorem near_vecs {as : List Addr} {A B C : List (Addr × Obj)} {va bv : Addr} {X Y : Vec} (_D : Apart as (A ++ (B ++ C))) (hx : IsVec B va X) (hy : IsVec (A ++ B) bv Y) : IsVec (A ++ (B ++ C)) va X ∧ IsVec (A ++ (B ++ C)) bv Y :=
  ⟨hx.more fun p hp => List.mem_append_right _ (List.mem_append_left _ hp), hy.more fun p hp => by
    rcases List.mem_append.mp hp with hp | hp
    · exact List.mem_append_left _ hp
    · exact List.mem_append_right _ (List.mem_append_left _ hp)⟩
theorem kin_ne {x : Str} (h : x = Str.ofString "rapid" ∨ x = Str.ofString "rapid" ∨ x = Str.ofString "rapid" ∨ x = Str.ofString "config") : (x == Str.ofString "change") = false := by
  rcases h with rfl | rfl | rfl | rfl <;> rfl
theorem News.memb {h₀ h : Heap} {L : Addr} {l l' : List (Addr × Obj)} (N : News h₀ L h l) (hs : ∀ p ∈ l', p ∈ l) : News h₀ L h l' := fun p hp => N p (hs p hp)

theorem off_all {d : Addr} : ∀ {l : List (Addr × Obj)}, LCg.Off1 d l → ∀ p ∈ l, p.1 ≠ d
  | [], _ => fun _ h => nomatch h
  | _ :: _, h => fun q hq => by
    rcases List.mem_cons.mp hq with rfl | hq
    · exact h.1
    · exact off_all h.2 q hq
theorem Apart.off {as : List Addr} {rest l : List (Addr × Obj)} {d : Addr} (D : Apart as rest) (h : LCg.Off1 d l) (e1 : l.drop as.length = rest) (e2 : (l.take as.length).map (·.1) = as) : Apart (d :: as) rest := by
  have hl := split_at e1
  have h' := off_all h
  refine ⟨List.nodup_cons.mpr ⟨fun hd => ?_, D.1⟩, fun a ha p hp => ?_⟩
  · rw [← e2] at hd
    obtain ⟨p, hp, e⟩ := List.mem_map.mp hd
    exact h' p (List.mem_of_mem_take hp) e
  · rcases List.mem_cons.mp ha with rfl | ha
    · exact h' p (by rw [hl]; exact List.mem_append_right _ hp)
    · exact D.2 a ha p hp
theorem off3_all {I C d : Addr} : ∀ {l : List (Addr × Obj)}, LCg.Off3 I C d l → ∀ p ∈ l, p.1 ≠ I ∧ p.1 ≠ C ∧ p.1 ≠ d
  | [], _ => fun _ h => nomatch h
  | _ :: _, h => fun q hq => by
    rcases List.mem_cons.mp hq with rfl | hq
    · exact h.1
    · exact off3_all h.2 q hq
theorem Apart.put {as : List Addr} {rest l : List (Addr × Obj)} {d : Addr} (D : Apart as rest) (h : ∀ p ∈ l, p.1 ≠ d) (e1 : l.drop as.length = rest) (e2 : (l.take as.length).map (·.1) = as) : (∀ a ∈ as, a ≠ d) ∧ ∀ p ∈ rest, p.1 ≠ d := by
  have hl := split_at e1
  refine ⟨fun a ha => ?_, fun p hp => h p (by rw [hl]; exact List.mem_append_right _ hp)⟩
  rw [← e2] at ha
  obtain ⟨p, hp, rfl⟩ := List.mem_map.mp ha
  exact h p (List.mem_of_mem_take hp)
theorem Apart.off3 {as : List Addr} {rest l : List (Addr × Obj)} {I C d : Addr} (D : Apart as rest) (h : LCg.Off3 I C d l) (hne : I ≠ C ∧ I ≠ d ∧ C ≠ d) (e1 : l.drop as.length = rest) (e2 : (l.take as.length).map (·.1) = as) : Apart (I :: C :: d :: as) rest := by
  have h' := off3_all h
  have a1 := Apart.put D (fun p hp => (h' p hp).1) e1 e2
  have a2 := Apart.put D (fun p hp => (h' p hp).2.1) e1 e2
  have a3 := Apart.put D (fun p hp => (h' p hp).2.2) e1 e2
  refine ⟨?_, fun a ha p hp => ?_⟩
  · simp only [List.nodup_cons, List.mem_cons, not_or]
    exact ⟨⟨hne.1, hne.2.1, fun hm => a1.1 _ hm rfl⟩, ⟨hne.2.2, fun hm => a2.1 _ hm rfl⟩, fun hm => a3.1 _ hm rfl, D.1⟩
  · simp only [List.mem_cons] at ha
    rcases ha with rfl | rfl | rfl | ha
    · exact a1.2 p hp
    · exact a2.2 p hp
    · exact a3.2 p hp
    · exact D.2 a ha p hp
theorem isLst {h₀ h : Heap} {L a : Addr} {l : List (Addr × Obj)} {vs : List Value} (N : News h₀ L h l) (hm : (a, LCg.lst vs) ∈ l) : h.IsList a vs.toArray := ⟨_, (N _ hm).1, rfl, _, rfl⟩
theorem callWith_Z {M : Model} {A : Around} {E : Value → Shared → Prop} {s : Shared} {K : Frag} {h₀ : Heap} {L : Addr} {m : Str → Option Value} {pos : Pos} {env : Env} {f : Value} {first : List Value} {Q : Value → Shared → Prop} (X : K.In h₀) (F : Fr h₀ L s.heap m) (hk : keepIn K f = true) (h : wpAny M A (call f (first ++ [])) Q E s) : wpAny M A (callWith pos f first (backTo pos (starEach [] env)) []) Q E s := callWith_K0 (X.keeps F.keep) hk h
theorem ne_self {K : Str} {P : Prop} (h : (K != K) = true) : P := by simp at h
/-- a word found in a menu, its source turned -/
inductive RolV : Value → Prop
  | mk (r : Str) (t : Tok) (h : r = Str.ofString "designated" ∨ r = Str.ofString "root" ∨ r = Str.ofString "alternate" ∨ r = Str.ofString "none") : RolV (.str r t)
theorem RolV.of {r : Str} {t : Tok} (h : r = Str.ofString "designated" ∨ r = Str.ofString "designated" ∨ r = Str.ofString "root" ∨ r = Str.ofString "alternate" ∨ r = Str.ofString "none") : RolV (.str r t) := by
  rcases h with h | h | h | h | h
  · exact .mk r t (.inl h)
  · exact .mk r t (.inl h)
  · exact .mk r t (.inr (.inl h))
  · exact .mk r t (.inr (.inr (.inl h)))
  · exact .mk r t (.inr (.inr (.inr h)))
theorem RolV.none {t : Tok} : RolV (.str (Str.ofString "none") t) := .mk _ t (.inr (.inr (.inr rfl)))
inductive PostR (h₀ : Heap) (L : Addr) (m : Str → Option Value) (s : Shared) (g : Obj → List (Addr × Obj)) : Value → Shared → Prop
  | mk (r : Str) (t : Tok) (hr : r = Str.ofString "designated" ∨ r = Str.ofString "root" ∨ r = Str.ofString "alternate" ∨ r = Str.ofString "none") (h' : Heap) (tk' : Nat) (a' b' : Int) (ta' tb' : Tok) (n' : Nat) (F : Fr h₀ L h' m) (N : News h₀ L h' (g (srcO a' b' ta' tb' n'))) : PostR h₀ L m s g (.str r t) { s with heap := h', toks := tk' }
theorem PostR.intro {h₀ : Heap} {L : Addr} {m : Str → Option Value} {s : Shared} {g : Obj → List (Addr × Obj)} {v : Value} {h' : Heap} {tk' : Nat} {a' b' : Int} {ta' tb' : Tok} {n' : Nat} {l : List (Addr × Obj)} (e : RolV v) (F : Fr h₀ L h' m) (N : News h₀ L h' l) (hs : (g (srcO a' b' ta' tb' n')).Sublist l) : PostR h₀ L m s g v { s with heap := h', toks := tk' } :=
  RolV.rec (motive := fun v _ => PostR h₀ L m s g v { s with heap := h', toks := tk' }) (fun r t hr => .mk r t hr h' tk' a' b' ta' tb' n' F (News.subl N hs)) e
theorem joinR {prog : Program} {w : World} {A : Around} {E : Value → Shared → Prop} {s : Shared} {h₀ : Heap} {L src : Addr} {m : Str → Option Value} {l : List (Addr × Obj)} {g : Obj → List (Addr × Obj)} {a b : Int} {ta tb : Tok} {n : Nat} {t : Sem Value} {Q : Value → Shared → Prop} (_F : Fr h₀ L s.heap m) (_N : News h₀ L s.heap l) (_U : UpdF src (srcO a b ta tb n) l g)
    (h1 : wpAny (model prog w) A t (PostR h₀ L m s g) E s)
    (h2 : ∀ (r : Str) (t : Tok), (r = Str.ofString "designated" ∨ r = Str.ofString "root" ∨ r = Str.ofString "alternate" ∨ r = Str.ofString "none") → ∀ h' tk' a' b' ta' tb' n', Fr h₀ L h' m → News h₀ L h' (g (srcO a' b' ta' tb' n')) → Q (.str r t) { s with heap := h', toks := tk' }) : wpAny (model prog w) A t Q E s :=
  wpAny_mono h1 (fun v s' h => PostR.rec (motive := fun v s' _ => Q v s') h2 h) fun _ _ h => h
theorem NewA.ofA {as' bs : List Addr} {rest l le : List (Addr × Obj)} (D : Apart as' rest) (S : Split rest l le) (h : (bs ++ le.map (·.1)).Sublist as') : NewA bs l := by
  have D' := D.sub h
  have ha := List.nodup_append.mp D'.1
  refine ⟨ha.1, fun a hb p hp => ?_⟩
  rw [S.eq] at hp
  rcases List.mem_append.mp hp with hp | hp
  · exact fun e => ha.2.2 a hb _ (List.mem_map.mpr ⟨p, hp, rfl⟩) e.symm
  · exact D'.2 a (List.mem_append_left _ hb) p hp
inductive PostT (w : World) (h₀ : Heap) (L : Addr) (m : Str → Option Value) (s : Shared) (l : List (Addr × Obj)) (g : Obj → List (Addr × Obj)) : Value → Shared → Prop
  | mk (h' : Heap) (tk' : Nat) (a' b' : Int) (ta' tb' : Tok) (n' : Nat) (x d : Addr) (k1 k2 k3 k4 : Tok) (ag : Int) (tag tm : Tok) (he : Int) (the td : Tok) (hn : NewA [x, d] l) (F : Fr h₀ L h' m) (N : News h₀ L h' ((x, instObj 53 d) :: (d, dictOf (timesE w k1 k2 k3 k4 ag tag 6 tm he the 9 td) 4) :: g (srcO a' b' ta' tb' n'))) : PostT w h₀ L m s l g (.ref x) { s with heap := h', toks := tk' }
theorem PostT.intro {w : World} {h₀ : Heap} {L x d : Addr} {m : Str → Option Value} {s : Shared} {l : List (Addr × Obj)} {g : Obj → List (Addr × Obj)} {h' : Heap} {tk' : Nat} {a' b' : Int} {ta' tb' : Tok} {n' : Nat} {k1 k2 k3 k4 tag tm the td : Tok} {ag he : Int} {lf : List (Addr × Obj)} (F : Fr h₀ L h' m) (N : News h₀ L h' lf) (hs : ((x, instObj 53 d) :: (d, dictOf (timesE w k1 k2 k3 k4 ag tag 6 tm he the 9 td) 4) :: g (srcO a' b' ta' tb' n')).Sublist lf) (hn : NewA [x, d] l) : PostT w h₀ L m s l g (.ref x) { s with heap := h', toks := tk' } :=
  .mk h' tk' a' b' ta' tb' n' x d k1 k2 k3 k4 ag tag tm he the td hn F (News.subl N hs)
theorem joinT {prog : Program} {w : World} {A : Around} {E : Value → Shared → Prop} {s : Shared} {h₀ : Heap} {L src : Addr} {m : Str → Option Value} {l : List (Addr × Obj)} {g : Obj → List (Addr × Obj)} {a b : Int} {ta tb : Tok} {n : Nat} {t : Sem Value} {Q : Value → Shared → Prop} (_F : Fr h₀ L s.heap m) (_N : News h₀ L s.heap l) (_U : UpdF src (srcO a b ta tb n) l g)
    (h1 : wpAny (model prog w) A t (PostT w h₀ L m s l g) E s)
    (h2 : ∀ h' tk' a' b' ta' tb' n' x d k1 k2 k3 k4 ag tag tm he the td, NewA [x, d] l → Fr h₀ L h' m → News h₀ L h' ((x, instObj 53 d) :: (d, dictOf (timesE w k1 k2 k3 k4 ag tag 6 tm he the 9 td) 4) :: g (srcO a' b' ta' tb' n')) → Q (.ref x) { s with heap := h', toks := tk' }) : wpAny (model prog w) A t Q E s :=
  wpAny_mono h1 (fun v s' h => PostT.rec (motive := fun v s' _ => Q v s') h2 h) fun _ _ h => h
local macro_rules | `(tactic| k_mem) => `(tactic| first | ((with_reducible_and_instances refine List.mem_append_left _ ?_); k_mem) | ((with_reducible_and_instances refine List.mem_append_right _ ?_); k_mem))
local macro_rules | `(tactic| walk_at "CompSrc") => `(tactic| (k_here; k_dflt (refine LCg.CompSrc.range (by rfl) (by k_asm) (by k_asm) (by assumption) (by first | decide | rfl) (by first | rfl | decide) (by first | size_fits | exact Nat.le_of_ble_eq_true rfl) ?_; intro g'; lcg_lit)))
local macro_rules | `(tactic| walk_at "CompRest") => `(tactic| (with_unfolding_all (refine LCg.CompRest.succ ?_; intro v' I' oI' C' oC' D' m' h' tk' E' hv' hC' hx' F' N' off' ne'; (obtain ⟨t9', hv9'⟩ := hv'; subst hv9'); (with_reducible rename Apart _ _ => hD); (have hD2 := Apart.off3 hD off' ne' rfl rfl); clear hD; (try simp only [LCg.Off3, and_true] at off'))))
local macro_rules | `(tactic| walk_at "CompEnd") => `(tactic| (refine' compEnd_ ?F ?N ?d1 ?d2 ?d3 ?off ?hS ?_; (case F => assumption); (case N => assumption); (case d1 => k_mem); (case d2 => k_mem); (case d3 => k_mem); (case off => lcg_off); (case hS => lcg_src); (with_reducible rename Apart _ _ => hD); (have hD2 := Apart.sub hD (List.Sublist.cons _ (List.Sublist.cons _ (List.Sublist.cons _ (List.Sublist.refl _))))); clear hD))
local macro_rules | `(tactic| walk_at "FinE") => `(tactic| ((unfold LCg.FinE); intro D' h' tk' F' N' o1'; (with_reducible rename Apart _ _ => hD); k_dflt (have hD2 := Apart.off hD o1' rfl rfl); clear hD o1'; (try simp only [List.nil_append, List.cons_append] at N'); (try dsimp only)))
inductive TurnP (g : Obj → List (Addr × Obj)) : Value → List (Addr × Obj) → Prop
  | mk (a' b' : Int) (ta' tb' : Tok) (n' : Nat) : TurnP g (.bool true) (g (srcO a' b' ta' tb' n'))
theorem TurnP.ret {g : Obj → List (Addr × Obj)} {R : Value → List (Addr × Obj) → Prop} (k9 : ∀ (a' b' : Int) (ta' tb' : Tok) (n' : Nat), R (.bool true) (g (srcO a' b' ta' tb' n'))) : ∀ v9 l9, TurnP g v9 l9 → R v9 l9 := fun _ _ h9 => TurnP.rec (motive := fun v9 l9 _ => R v9 l9) k9 h9
set_option maxHeartbeats 8000000 in
theorem turn_c {prog : Program} (w : World) {l : List (Addr × Obj)} {g : Obj → List (Addr × Obj)} {src : Addr} {a b : Int} {ta tb : Tok} {n : Nat} (U : UpdF src (srcO a b ta tb n) l g) :
    Con prog w 24 412 [.ref src] l (TurnP g) := by
  unfold Con
  intro mean mg mb dp un gd cn cs ca' ccd cl outer A₀ base h₀ L m s Q E B F X N T hk hd hu hret
  obtain ⟨rest, hin, hout, D, _, hl⟩ := UpdF.front (h₀ := h₀) (L := L) U
  replace N := hin _ N
  refine wpAny_call ?_
  k_dflt (refine' code_defC ?k1 ?k2 ?k3 ?k4 ?k5 ?kA ?kF ?kK ?k6 ?k7 ?k8 ?k9 ?kB ?kD ?_ ?c2 ?c3 ?c4; (case kA => exact rfl); (case kF => exact rfl); (case kK => assumption); (case k1 => k_asm); (case k2 => k_asm); (case k3 => k_asm); (case k4 => k_asm); (case k5 => k_asm); (case k6 => k_is); (case k7 => k_is); (case k8 => ktr_room); (case k9 => exact BindsTo.of_eq rfl); (case kB => exact rfl); (case kD => decide +kernel); (case c2 => exact rfl); (case c3 => exact rfl); (case c4 => exact rfl); k_whole; intro g' L' h' tk' cells' FG' F' N' Y' B' X' T' l1; (have l9 : ∀ p : PySem.Addr × PySem.Obj, p ∈ (src, srcO a b ta tb n) :: rest → p.1 < L' + 1 := fun p hp => Nat.lt_succ_of_lt (l1 p hp)); clear l1; k_lt l9; k_cells Y'; (try simp only [List.cons_append, List.nil_append] at N'); (try dsimp only); (try k_fold))
  (repeat' (first | (k_unfold; (try dsimp only)) | ((with_reducible show wpAny _ _ (call (Value.ref _) _) _ _ _); first | ((with_reducible show wpAny _ _ (call (Value.ref 121) _) _ _ _); refine' con_use (heard_c _ ?h1 ?h2 ?h3 ?h4 ?h7 ?h8 ?h5 ?h6 ?hx ?hy) ?k1 ?k2 ?k3 ?k4 ?k5 ?k6 ?k7 ?k8 ?_; (case k1 => k_asm); (case k2 => k_asm); (case k3 => k_asm); (case k4 => k_asm); (case k5 => k_asm); (case h1 => k_mem); (case h2 => k_mem); (case h3 => k_mem); (case h4 => k_mem); (case h7 => k_mem); (case h8 => k_mem); (case h5 => k_mem); (case h6 => k_mem); (case hx => k_all); (case hy => k_all); (case k6 => first | exact rfl | assumption); (case k7 => ktr_room); (case k8 => ktr_units); refine' KindP.ret ?_; intro t9; intro h' tk' F' N'; (try dsimp only at N'); (try k_sweep)) | ((with_reducible show wpAny _ _ (call (Value.ref 386) _) _ _ _); refine' con_use (port_c _ ?U) ?k1 ?k2 ?k3 ?k4 ?k5 ?k6 ?k7 ?k8 ?_; (case k1 => k_asm); (case k2 => k_asm); (case k3 => k_asm); (case k4 => k_asm); (case k5 => k_asm); (case U => k_updF); (case k6 => first | exact rfl | assumption); (case k7 => ktr_room); (case k8 => ktr_units); refine' PortP.ret ?_; intro pa pd ra rd ta td ca cd xa xd va k kr kt kc u ur ut uc k1 k2 k3 k4 tag tm the tdd l2 X inf ti left tl pg pp ag ad dis ag' he' a' b' ta' tb' n' hn' hi' hv'; intro h' tk' F' N'; (with_reducible rename Apart _ _ => hD); refine' rot_use (bs := [_, _, _, _, _, _, _, _, _, _]) (E := [_, _, _, _, _, _, _, _, _, _]) hD hn' rfl rfl (by k_mem) N' ?_; clear hD N'; intro hD2 N'; dsimp only [List.cons_append, List.nil_append] at N' hD2; (try dsimp only at N'); (try k_sweep)) | ((with_reducible show wpAny _ _ (call (Value.ref 393) _) _ _ _); refine' con_use (words_c _ ?hp ?hpd ?hc ?hcd ?ht ?htd ?hx ?hxd ?hto) ?k1 ?k2 ?k3 ?k4 ?k5 ?k6 ?k7 ?k8 ?_; (case k1 => k_asm); (case k2 => k_asm); (case k3 => k_asm); (case k4 => k_asm); (case k5 => k_asm); (case hp => k_mem); (case hpd => k_mem); (case hc => k_mem); (case hcd => k_mem); (case ht => k_mem); (case htd => k_mem); (case hx => k_mem); (case hxd => k_mem); (case hto => exact rfl); (case k6 => first | exact rfl | assumption); (case k7 => ktr_room); (case k8 => ktr_units); refine' WordsP.ret ?_; intro wd tm an o' hn' lo' hd'; (with_reducible rename Apart _ _ => hD); (have hD2 := Apart.more hD hn' rfl rfl); clear hD hn'; dsimp only [List.cons_append, List.nil_append] at hD2; intro h' tk' F' N'; (try dsimp only at N'); (try k_sweep)) | ((with_reducible show wpAny _ _ (call (Value.ref 372) _) _ _ _); refine' con_use (kind_c _ ?h3 ?h4 ?h7 ?h8 ?hx ?hy ?h5 ?hr) ?k1 ?k2 ?k3 ?k4 ?k5 ?k6 ?k7 ?k8 ?_; (case k1 => k_asm); (case k2 => k_asm); (case k3 => k_asm); (case k4 => k_asm); (case k5 => k_asm); (case h3 => k_mem); (case h4 => k_mem); (case h7 => k_mem); (case h8 => k_mem); (case hx => k_all); (case hy => k_all); (case h5 => k_mem); (case hr => with_reducible assumption); (case k6 => first | exact rfl | assumption); (case k7 => ktr_room); (case k8 => ktr_units); refine' KindP.ret ?_; intro t9; intro h' tk' F' N'; (try dsimp only at N'); (try k_sweep)) | ((with_reducible show wpAny _ _ (call (Value.ref 360) _) _ _ _); refine' con_use (near_c _ ?U ?hx ?hs) ?k1 ?k2 ?k3 ?k4 ?k5 ?k6 ?k7 ?k8 ?_; (case k1 => k_asm); (case k2 => k_asm); (case k3 => k_asm); (case k4 => k_asm); (case k5 => k_asm); (case U => k_updF); (case hx => with_reducible assumption); (case hs => (intro o9 p9 hp9;(try dsimp only);(repeat' (first|exact hp9|with_reducible exact List.mem_append_left _ hp9|with_reducible exact List.mem_append_right _ (List.mem_append_left _ hp9)|refine List.mem_cons_of_mem _ ?_)))); (case k6 => first | exact rfl | assumption); (case k7 => ktr_room); (case k8 => ktr_units); refine' NearP.ret ?_; intro av l2 Y a' b' ta' tb' n' hn' hi'; intro h' tk' F' N'; (with_reducible rename Apart _ _ => hD); refine' rot_use (bs := []) (E := []) hD hn' rfl rfl (by k_mem) N' ?_; clear hD N'; intro hD2 N'; dsimp only [List.cons_append, List.nil_append] at N' hD2; (have hxy := near_vecs hD2 (by with_reducible assumption) hi'); clear hi'; refine' hxy.elim ?_; clear hxy; intro hx2' hy2'; (try dsimp only at N'); (try k_sweep)) | ((with_reducible show wpAny _ _ (call (Value.ref 407) _) _ _ _); refine' con_use (due_w _ ?D ?e1 ?e2 ?hK ?hd ?h3 ?h4 ?h7 ?h8 ?hx ?hy ?hsub) ?k1 ?k2 ?k3 ?k4 ?k5 ?k6 ?k7 ?k8 ?_; (case k1 => k_asm); (case k2 => k_asm); (case k3 => k_asm); (case k4 => k_asm); (case k5 => k_asm); (case D => k_asm); (case e1 => exact rfl); (case e2 => exact rfl); (case hK => exact kindS_cases _ _ _ _ _); (case hd => k_asm); (case h3 => k_mem); (case h4 => k_mem); (case h7 => k_mem); (case h8 => k_mem); (case hx => with_reducible assumption); (case hy => with_reducible assumption); (case hsub => (intro p9 hp9; (repeat' (first|exact hp9|with_reducible exact List.mem_append_left _ hp9|with_reducible exact List.mem_append_right _ (List.mem_append_left _ hp9)|refine List.mem_cons_of_mem _ ?_)))); (case k6 => first | exact rfl | assumption); (case k7 => ktr_room); (case k8 => ktr_units); refine' DueP.ret ?_; intro o' tm' an' ti' tl' q1' q2' q3' q4' W' hW' hD2 hd'; (with_reducible rename Apart _ _ => hD8); revert hD8; (with_reducible rename Apart _ _ => hD9); clear hD9; intro hD8; intro h' tk' F' N'; (try dsimp only at N'); (try k_sweep)) | ((with_reducible show wpAny _ _ (call (Value.ref 339) _) _ _ _); refine' con_use (take_c _ ?U ?ht ?ht2) ?k1 ?k2 ?k3 ?k4 ?k5 ?k6 ?k7 ?k8 ?_; (case k1 => k_asm); (case k2 => k_asm); (case k3 => k_asm); (case k4 => k_asm); (case k5 => k_asm); (case U => k_updF); (case ht => omega); (case ht2 => omega); (case k6 => first | exact rfl | assumption); (case k7 => ktr_room); (case k8 => ktr_units); refine' TakeP.ret ?_; intro d' td' a' b' ta' tb' n' lo' hi'; intro h' tk' F' N'; (try dsimp only at N'); (try k_sweep)) | ((with_reducible show wpAny _ _ (call (Value.ref 346) _) _ _ _); refine' con_use (one_c _ ?U ?hm ?ht ?ht2) ?k1 ?k2 ?k3 ?k4 ?k5 ?k6 ?k7 ?k8 ?_; (case k1 => k_asm); (case k2 => k_asm); (case k3 => k_asm); (case k4 => k_asm); (case k5 => k_asm); (case U => k_updF); (case hm => (intro o9; (try dsimp only); k_mem)); (case ht => exact Nat.le_of_ble_eq_true rfl); (case ht2 => exact Nat.le_of_ble_eq_true rfl); (case k6 => first | exact rfl | assumption); (case k7 => ktr_room); (case k8 => ktr_units); refine' OneP.ret ?_; (first | refine' mem_int4 ?_ | refine' mem_int2 ?_ | refine' mem_str3 ?_ | refine' mem_str4 ?_ | refine' mem_str5 ?_); intro x' t' hx' a' b' ta' tb' n'; intro h' tk' F' N'; (try dsimp only at N'); (try k_sweep)) | ((with_reducible show wpAny _ _ (call (Value.ref 353) _) _ _ _); refine' con_use (vector_c _ ?U) ?k1 ?k2 ?k3 ?k4 ?k5 ?k6 ?k7 ?k8 ?_; (case k1 => k_asm); (case k2 => k_asm); (case k3 => k_asm); (case k4 => k_asm); (case k5 => k_asm); (case U => k_updF); (case k6 => first | exact rfl | assumption); (case k7 => ktr_room); (case k8 => ktr_units); refine' VectorP.ret ?_; intro av l2 X a' b' ta' tb' n' hn' hi'; intro h' tk' F' N'; (with_reducible rename Apart _ _ => hD); refine' rot_use (bs := []) (E := []) hD hn' rfl rfl (by k_mem) N' ?_; clear hD N'; intro hD2 N'; dsimp only [List.cons_append, List.nil_append] at N' hD2; (try dsimp only at N'); (try k_sweep)) | ((with_reducible show wpAny _ _ (call (Value.ref 379) _) _ _ _); refine' con_use (times_c _ ?U) ?k1 ?k2 ?k3 ?k4 ?k5 ?k6 ?k7 ?k8 ?_; (case k1 => k_asm); (case k2 => k_asm); (case k3 => k_asm); (case k4 => k_asm); (case k5 => k_asm); (case U => k_updF); (case k6 => first | exact rfl | assumption); (case k7 => ktr_room); (case k8 => ktr_units); refine' TimesP.ret ?_; intro x d k1 k2 k3 k4 ag tag tm he the td a' b' ta' tb' n' hn'; (with_reducible rename Apart _ _ => hD); (have hD2 := Apart.more hD hn' rfl rfl); clear hD hn'; dsimp only [List.cons_append, List.nil_append] at hD2; intro h' tk' F' N'; (try dsimp only at N'); (try k_sweep)) | ((with_reducible show wpAny _ _ (call (Value.ref 89) _) _ _ _); refine' con_use (bpdu10_c _) ?k1 ?k2 ?k3 ?k4 ?k5 ?k6 ?k7 ?k8 ?_; (case k1 => k_asm); (case k2 => k_asm); (case k3 => k_asm); (case k4 => k_asm); (case k5 => k_asm); (case k6 => first | exact rfl | assumption); (case k7 => ktr_room); (case k8 => ktr_units); refine' BpduP.ret ?_; intro x dx kb' ub' hn'; (with_reducible rename Apart _ _ => hD); (have hD2 := Apart.more hD hn' rfl rfl); clear hD hn'; dsimp only [List.cons_append, List.nil_append] at hD2; intro h' tk' F' N'; (try dsimp only at N'); (try k_sweep)) | ((with_reducible show wpAny _ _ (call (Value.ref 89) _) _ _ _); refine' con_use (bpdu9_c _) ?k1 ?k2 ?k3 ?k4 ?k5 ?k6 ?k7 ?k8 ?_; (case k1 => k_asm); (case k2 => k_asm); (case k3 => k_asm); (case k4 => k_asm); (case k5 => k_asm); (case k6 => first | exact rfl | assumption); (case k7 => ktr_room); (case k8 => ktr_units); refine' BpduP.ret ?_; intro x dx kb' ub' hn'; (with_reducible rename Apart _ _ => hD); (have hD2 := Apart.more hD hn' rfl rfl); clear hD hn'; dsimp only [List.cons_append, List.nil_append] at hD2; intro h' tk' F' N'; (try dsimp only at N'); (try k_sweep)) | ((with_reducible show wpAny _ _ (call (Value.ref 89) _) _ _ _); refine' con_use (bpdu2_c _) ?k1 ?k2 ?k3 ?k4 ?k5 ?k6 ?k7 ?k8 ?_; (case k1 => k_asm); (case k2 => k_asm); (case k3 => k_asm); (case k4 => k_asm); (case k5 => k_asm); (case k6 => first | exact rfl | assumption); (case k7 => ktr_room); (case k8 => ktr_units); refine' BpduP.ret ?_; intro x dx kb' ub' hn'; (with_reducible rename Apart _ _ => hD); (have hD2 := Apart.more hD hn' rfl rfl); clear hD hn'; dsimp only [List.cons_append, List.nil_append] at hD2; intro h' tk' F' N'; (try dsimp only at N'); (try k_sweep)) | ((with_reducible show wpAny _ _ (call (Value.ref 100) _) _ _ _); refine' con_use (notice_c _) ?k1 ?k2 ?k3 ?k4 ?k5 ?k6 ?k7 ?k8 ?_; (case k1 => k_asm); (case k2 => k_asm); (case k3 => k_asm); (case k4 => k_asm); (case k5 => k_asm); (case k6 => first | exact rfl | assumption); (case k7 => ktr_room); (case k8 => ktr_units); refine' NoticeP.ret ?_; intro x dx kb' ub' tk hn'; (with_reducible rename Apart _ _ => hD); (have hD2 := Apart.more hD hn' rfl rfl); clear hD hn'; dsimp only [List.cons_append, List.nil_append] at hD2; intro h' tk' F' N'; (try dsimp only at N'); (try k_sweep)) | ((with_reducible show wpAny _ _ (call (Value.ref 53) _) _ _ _); refine' con_use (tctor_c _) ?k1 ?k2 ?k3 ?k4 ?k5 ?k6 ?k7 ?k8 ?_; (case k1 => k_asm); (case k2 => k_asm); (case k3 => k_asm); (case k4 => k_asm); (case k5 => k_asm); (case k6 => first | exact rfl | assumption); (case k7 => ktr_room); (case k8 => ktr_units); refine' TctorP.ret ?_; intro x dx k1 k2 k3 k4 hn'; (with_reducible rename Apart _ _ => hD); (have hD2 := Apart.more hD hn' rfl rfl); clear hD hn'; dsimp only [List.cons_append, List.nil_append] at hD2; intro h' tk' F' N'; (try dsimp only at N'); (try k_sweep))) | ((with_reducible show wpAny _ _ (getMethod (Value.ref _) (Str.ofString "update") _) _ _ _); k_dflt (refine' kob_method (knd := PySem.strKind _ _) PySem.F.slot_dict_update PySem.F.type_dict_update ?N ?hp ?hd ?_; (case N => k_asm); (case hp => k_mem); (case hd => k_asm))) | ((with_reducible show wpAny _ _ (callWith _ (Value.builtin "dict.update") _ _ _) _ _ _); refine callWith_method1 ?_) | ((with_reducible show wpAny _ _ (call (Value.builtin "dict.update") _) _ _ _); k_dflt (refine' upd_dict (knd := PySem.strKind _ _) ?F ?N ?U ?hd ?hm2 ?hd2 ?lo ?hne ?hsz ?_; (case F => k_asm); (case N => k_asm); (case U => k_updF); (case hd => k_asm); (case hm2 => k_mem); (case hd2 => k_asm); (case lo => k_asm); (case hne => ((with_reducible rename Apart _ _ => hD); have h9 := hD.1; intro e9; simp [e9] at h9)); (case hsz => kob_size)); intro h' o' F' N' hd'; (try kob_lit); (try dsimp only at N')) | ((with_reducible show wpAny _ _ (callWith _ (Value.ref _) _ _ _) _ _ _); k_dflt (refine' callWith_Z ?k1 ?k2 ?k3 ?_; (case k1 => k_asm); (case k2 => k_asm); (case k3 => k_is); k_whole)) | ((with_reducible show wpAny _ _ (eval (Expr.IfExp _ _ (Expr.Constant _ _ _) _) _) _ _ _); (fail_if_success (with_reducible show wpAny _ _ _ (PostR _ _ _ _ _) _ _)); k_dflt (refine' joinR ?k1 ?k2 ?U ?k3 ?_; (case k1 => k_asm); (case k2 => k_asm); (case U => k_updF)); (case k3 => k_dflt ((repeat' (first | (k_unfold; (try dsimp only)) | ((with_reducible show wpAny _ _ (call (Value.ref _) _) _ _ _); first | ((with_reducible show wpAny _ _ (call (Value.ref 339) _) _ _ _); refine' con_use (take_c _ ?U ?ht ?ht2) ?k1 ?k2 ?k3 ?k4 ?k5 ?k6 ?k7 ?k8 ?_; (case k1 => k_asm); (case k2 => k_asm); (case k3 => k_asm); (case k4 => k_asm); (case k5 => k_asm); (case U => k_updF); (case ht => omega); (case ht2 => omega); (case k6 => first | exact rfl | assumption); (case k7 => ktr_room); (case k8 => ktr_units); refine' TakeP.ret ?_; intro d' td' a' b' ta' tb' n' lo' hi'; intro h' tk' F' N'; (try dsimp only at N'); (try k_sweep)) | ((with_reducible show wpAny _ _ (call (Value.ref 346) _) _ _ _); refine' con_use (one_c _ ?U ?hm ?ht ?ht2) ?k1 ?k2 ?k3 ?k4 ?k5 ?k6 ?k7 ?k8 ?_; (case k1 => k_asm); (case k2 => k_asm); (case k3 => k_asm); (case k4 => k_asm); (case k5 => k_asm); (case U => k_updF); (case hm => (intro o9; (try dsimp only); k_mem)); (case ht => exact Nat.le_of_ble_eq_true rfl); (case ht2 => exact Nat.le_of_ble_eq_true rfl); (case k6 => first | exact rfl | assumption); (case k7 => ktr_room); (case k8 => ktr_units); refine' OneP.ret ?_; (first | refine' mem_int4 ?_ | refine' mem_int2 ?_ | refine' mem_str3 ?_ | refine' mem_str4 ?_ | refine' mem_str5 ?_); intro x' t' hx' a' b' ta' tb' n'; intro h' tk' F' N'; (try dsimp only at N'); (try k_sweep))) | walk1 | (dsimp only; walk1) | (leave1; (try dsimp only)) | fail "no step")); all_goals (refine' PostR.intro ?e ?f ?n0 ?n1; (case f => k_asm); (case n0 => k_asm); (case n1 => ((try dsimp only); k_mem)); (case e => first | exact RolV.none | exact RolV.of (by assumption))))); intro r' t' hr' h' tk' a' b' ta' tb' n' F' N'; (try dsimp only at N'); (try k_sweep)) | ((with_reducible show wpAny _ _ (eval (Expr.IfExp _ _ (Expr.Call _ _ _ _) _) _) _ _ _); (fail_if_success (with_reducible show wpAny _ _ _ (PostT _ _ _ _ _ _ _) _ _)); k_dflt (refine' joinT ?k1 ?k2 ?U ?k3 ?_; (case k1 => k_asm); (case k2 => k_asm); (case U => k_updF)); (case k3 => k_dflt ((repeat' (first | (k_unfold; (try dsimp only)) | ((with_reducible show wpAny _ _ (call (Value.ref _) _) _ _ _); first | ((with_reducible show wpAny _ _ (call (Value.ref 339) _) _ _ _); refine' con_use (take_c _ ?U ?ht ?ht2) ?k1 ?k2 ?k3 ?k4 ?k5 ?k6 ?k7 ?k8 ?_; (case k1 => k_asm); (case k2 => k_asm); (case k3 => k_asm); (case k4 => k_asm); (case k5 => k_asm); (case U => k_updF); (case ht => omega); (case ht2 => omega); (case k6 => first | exact rfl | assumption); (case k7 => ktr_room); (case k8 => ktr_units); refine' TakeP.ret ?_; intro d' td' a' b' ta' tb' n' lo' hi'; intro h' tk' F' N'; (try dsimp only at N'); (try k_sweep)) | ((with_reducible show wpAny _ _ (call (Value.ref 346) _) _ _ _); refine' con_use (one_c _ ?U ?hm ?ht ?ht2) ?k1 ?k2 ?k3 ?k4 ?k5 ?k6 ?k7 ?k8 ?_; (case k1 => k_asm); (case k2 => k_asm); (case k3 => k_asm); (case k4 => k_asm); (case k5 => k_asm); (case U => k_updF); (case hm => (intro o9; (try dsimp only); k_mem)); (case ht => exact Nat.le_of_ble_eq_true rfl); (case ht2 => exact Nat.le_of_ble_eq_true rfl); (case k6 => first | exact rfl | assumption); (case k7 => ktr_room); (case k8 => ktr_units); refine' OneP.ret ?_; (first | refine' mem_int4 ?_ | refine' mem_int2 ?_ | refine' mem_str3 ?_ | refine' mem_str4 ?_ | refine' mem_str5 ?_); intro x' t' hx' a' b' ta' tb' n'; intro h' tk' F' N'; (try dsimp only at N'); (try k_sweep)) | ((with_reducible show wpAny _ _ (call (Value.ref 53) _) _ _ _); refine' con_use (tctor_c _) ?k1 ?k2 ?k3 ?k4 ?k5 ?k6 ?k7 ?k8 ?_; (case k1 => k_asm); (case k2 => k_asm); (case k3 => k_asm); (case k4 => k_asm); (case k5 => k_asm); (case k6 => first | exact rfl | assumption); (case k7 => ktr_room); (case k8 => ktr_units); refine' TctorP.ret ?_; intro x dx k1 k2 k3 k4 hn'; (with_reducible rename Apart _ _ => hD); (have hD2 := Apart.more hD hn' rfl rfl); clear hD hn'; dsimp only [List.cons_append, List.nil_append] at hD2; intro h' tk' F' N'; (try dsimp only at N'); (try k_sweep)) | ((with_reducible show wpAny _ _ (call (Value.ref 379) _) _ _ _); refine' con_use (times_c _ ?U) ?k1 ?k2 ?k3 ?k4 ?k5 ?k6 ?k7 ?k8 ?_; (case k1 => k_asm); (case k2 => k_asm); (case k3 => k_asm); (case k4 => k_asm); (case k5 => k_asm); (case U => k_updF); (case k6 => first | exact rfl | assumption); (case k7 => ktr_room); (case k8 => ktr_units); refine' TimesP.ret ?_; intro x d k1 k2 k3 k4 ag tag tm he the td a' b' ta' tb' n' hn'; (with_reducible rename Apart _ _ => hD); (have hD2 := Apart.more hD hn' rfl rfl); clear hD hn'; dsimp only [List.cons_append, List.nil_append] at hD2; intro h' tk' F' N'; (try dsimp only at N'); (try k_sweep))) | walk1 | (dsimp only; walk1) | (leave1; (try dsimp only)) | fail "no step")); all_goals (refine' PostT.intro ?f ?n0 ?n1 ?hn; (case f => k_asm); (case n0 => k_asm); (case n1 => ((try dsimp only); k_mem)); (case hn => ((with_reducible rename Apart _ _ => hD); refine' NewA.ofA hD ?s1 ?s2; (case s1 => k_mem); (case s2 => ((try simp only [List.map_cons, List.map_nil, List.cons_append, List.nil_append]); k_mem))))))); intro h' tk' a' b' ta' tb' n' x' d' k1' k2' k3' k4' ag' tag' tm' he' the' td' hn'; (with_reducible rename Apart _ _ => hD); (have hD2 := Apart.more hD hn' rfl rfl); clear hD hn'; dsimp only [List.cons_append, List.nil_append] at hD2; intro F' N'; (try dsimp only at N'); (try k_sweep)) | ((with_reducible show wpAny _ _ (subscriptTail _ _ (Value.ref _) (Value.int _ _)) _ _ _); k_dflt (refine' item_litK ?k1 ?k2 ?k3 ?k4 ?_ ?k6; (case k1 => exact isLst (by k_asm) (by k_mem)); (case k2 => decide); (case k3 => decide); (case k4 => rfl); (case k6 => with_unfolding_all rfl); k_whole)) | ((with_reducible show wpAny _ _ (call (Value.ref 177) _) _ _ _); (with_reducible rename Apart _ _ => hD); (with_reducible rename News _ _ _ _ => hN); k_dflt (refine' told_use (oc := dictOf (changeE _ _ _ _ _ _) 6) (ot := dictOf (timersE _ _ _ _) 8) (op := dictOf (portE _ _ _ _ _ _ _ _ _ _ _ _ _ _ _ _ _) 33) hD rfl rfl hN ?o1 ?o2 ?o3 ?hc ?ht ?hp ?_; (case o1 => k_mem); (case o2 => k_mem); (case o3 => k_mem); (case hc => k_mem); (case ht => k_mem); (case hp => k_mem)); intro hD3 hN3; clear hD; refine' con_use (told_c _ ?D0 ?h1 ?hta ?hca ?hra ?hrd ?h5 ?h6 ?h3 ?h4 ?h7 ?h8 ?hx ?hy ?hkin ?hW) ?k1 ?k2 ?k3 ?k4 ?k5 ?k6 ?k7 ?k8 ?_; (case k1 => k_asm); (case k2 => k_asm); (case k3 => k_asm); (case k4 => exact hN3); (case k5 => k_asm); (case D0 => exact hD3); (case h1 => k_mem); (case hta => k_mem); (case hca => k_mem); (case hra => k_mem); (case hrd => k_mem); (case h5 => k_mem); (case h6 => k_mem); (case h3 => k_mem); (case h4 => k_mem); (case h7 => k_mem); (case h8 => k_mem); (case hx => k_all); (case hy => k_all); (case hkin => exact kin_ne (by assumption)); (case hW => first | with_reducible assumption | exact rfl); (case k6 => first | exact rfl | assumption); (case k7 => ktr_room); (case k8 => ktr_units); refine' ToldEnd.ret ?_; intro l2' xb' xbd' q1' q2' q3' q4' q5' q6' q7' q8' tl' ti' hn' hm1' hm2' h' tk' F' N'; refine' rot_use (bs := []) (E := []) hD3 hn' rfl rfl (by k_mem) N' ?_; clear hD3 hN3 N' hn'; intro hD2 N'; dsimp only [List.cons_append, List.nil_append] at N' hD2; (try k_sweep)) | ((with_reducible show wpAny _ _ (call (Value.ref 177) _) _ _ _); (with_reducible rename Apart _ _ => hD); (with_reducible rename News _ _ _ _ => hN); k_dflt (refine' told_use (oc := dictOf (changeE _ _ _ _ _ _) 6) (ot := dictOf (timersE _ _ _ _) 8) (op := dictOf (portE _ _ _ _ _ _ _ _ _ _ _ _ _ _ _ _ _) 33) hD rfl rfl hN ?o1 ?o2 ?o3 ?hc ?ht ?hp ?_; (case o1 => k_mem); (case o2 => k_mem); (case o3 => k_mem); (case hc => k_mem); (case ht => k_mem); (case hp => k_mem)); intro hD3 hN3; clear hD; refine' con_use (toldn_c _ ?D0 ?h1 ?hca ?h3 ?h4) ?k1 ?k2 ?k3 ?k4 ?k5 ?k6 ?k7 ?k8 ?_; (case k1 => k_asm); (case k2 => k_asm); (case k3 => k_asm); (case k4 => exact hN3); (case k5 => k_asm); (case D0 => exact hD3); (case h1 => k_mem); (case hca => k_mem); (case h3 => k_mem); (case h4 => k_mem); (case k6 => first | exact rfl | assumption); (case k7 => ktr_room); (case k8 => ktr_units); refine' Is.ret ?_; intro h' tk' F' N'; clear hN3; (try k_sweep)) | ((with_reducible show wpAny _ _ (compareOp CmpOp.Eq (Value.ref _) (Value.ref _)) _ _ _); k_dflt (refine' words_eq ?z1 ?m1 ?m2 ?z2 ?z3 ?g1 ?g2 ?f1 ?f2 ?lo1 ?lo2 ?z4 ?_; (case z1 => k_asm); (case m1 => k_mem); (case m2 => k_mem); (case z2 => k_asm); (case z3 => k_asm); (case g1 => k_mem); (case g2 => k_mem); (case f1 => k_mem); (case f2 => k_mem); (case lo1 => k_asm); (case lo2 => k_asm); (case z4 => ktr_units))) | walk1 | (dsimp only; walk1) | (leave1; (try dsimp only)) | fail "no step"))
  all_goals first
    | exact ne_self (by assumption)
    | (refine' hret _ _ _ _ (.mk _ _ _ _ _) ?fr (hout _ [] _ (News.cons_of ?n0 ?m0 (News.memb ?n2 ?n1)))
       case fr => k_asm
       case n0 => k_asm
       case m0 => k_mem
       case n2 => k_asm
       case n1 =>
         intro p9 hp9
         repeat' (first | exact hp9 | refine List.mem_cons_of_mem _ ?_ | refine List.mem_append_right _ ?_))

/-- a contract with the script in the frame's base -/
def ConL (prog : Program) (w : World) (dep : Nat) (f : Addr) (vs : List Value) (news : List (Addr × Obj)) (sc : Addr) (xs : List Value) (Post : Value → List (Addr × Obj) → Prop) : Prop :=
  ∀ (mean : ExcName → Option Value) (mg mb : Str → Option Value) (dp un : Nat) (gd : Option (List Code)) (cn : Str) (cs : Scope) (a : Addr) (ccd : Value) (cl : List (Str × Addr)) (outer : List Env) (A₀ : Around) (base h₀ : Heap) (L : Addr) (m : Str → Option Value) (s : Shared) (Q E : Value → Shared → Prop),
    Below A₀ base outer h₀ → Fr h₀ L s.heap m → (mk0.heap_1 w.params).In h₀ → News h₀ L s.heap news → Top mk0.view_1 (looseW mk0.view_1 lo) mean mg mb h₀ → cs.kind = .function → dp + dep < recursionLimit → un + 8 * dep < cLine → h₀.IsList sc xs.toArray →
    (∀ (v : Value) (news' : List (Addr × Obj)) (h' : Heap) (tk' : Nat), Post v news' → Fr h₀ L h' m → News h₀ L h' news' → Q v { s with heap := h', toks := tk' }) →
    wpAny (model prog w) (ktrTop dp un gd cn cs L a ccd cl outer) (call (.ref f) vs) Q E s
theorem isl2 {h₀ g h : Heap} {L L' sc : Addr} {m m' : Str → Option Value} {vs : Array Value} (hl : h₀.IsList sc vs) (G : Fr h₀ L g m) (F : Fr g L' h m') : h.IsList sc vs := let ⟨o, e, r⟩ := hl; ⟨o, F.keep _ _ (G.keep _ _ e), r⟩
theorem item_big {prog : Program} {w : World} {A : Around} {E : Value → Shared → Prop} {s : Shared} {value slice : PySem.Expr} {l : Addr} {vs : List Value} {ns : List Int} {k : Int} {u : Tok} {Q : Value → Shared → Prop} (hi : IntsAre vs ns) (hl : s.heap.IsList l vs.toArray) (h0 : 0 ≤ k) (h1 : k < vs.length) (h9 : k < 2) (h : ∀ x t, Q (.int x t) s)
    (hs : subscripted slice false (.ref l) (.int k u) = operate [.ref l, .int k u] (getItem (.ref l) (.int k u)) := by with_unfolding_all rfl) :
    wpAny (model prog w) A (subscriptTail value slice (.ref l) (.int k u)) Q E s := by
  have hv : k.toNat < vs.length := by omega
  obtain ⟨x, t, e, hx⟩ := IntsAre.at hi k.toNat _ (List.getElem?_eq_getElem hv)
  exact item_litK hl h0 (by omega) ((List.getElem?_eq_getElem hv).trans (congrArg some e)) (h x t) hs
inductive PoolP (l : List (Addr × Obj)) : Value → List (Addr × Obj) → Prop
  | mk (a : Addr) (x y : Int) (tx ty : Tok) (n : Nat) (hn : NewA [a] l) : PoolP l (.ref a) ((a, srcO x y tx ty n) :: l)
theorem PoolP.ret {l : List (Addr × Obj)} {R : Value → List (Addr × Obj) → Prop} (k9 : ∀ (a : Addr) (x y : Int) (tx ty : Tok) (n : Nat) (hn : NewA [a] l), R (.ref a) ((a, srcO x y tx ty n) :: l)) : ∀ v9 l9, PoolP l v9 l9 → R v9 l9 := fun _ _ h9 => PoolP.rec (motive := fun v9 l9 _ => R v9 l9) k9 h9
set_option maxHeartbeats 1000000 in
theorem pool_c {prog : Program} (w : World) {l : List (Addr × Obj)} {sc : Addr} {xs : List Value} {ns : List Int} {k : Int} {tk : Tok} (hi : IntsAre xs ns) (hn : ns.length ≤ 63) (h0 : 0 ≤ k) (h2 : k < 2) :
    ConL prog w 3 332 [.ref sc, .int k tk] l sc xs (PoolP l) := by
  unfold ConL
  intro mean mg mb dp un gd cn cs ca' ccd cl outer A₀ base h₀ L m s Q E B F X N T hk hd hu hsl hret
  have D := Apart.nil (rest := l)
  have hlen := hi.length
  refine wpAny_call ?_
  k_dflt ktr_enter
  (repeat' (first | (k_unfold; (try dsimp only)) | ((with_reducible show wpAny _ _ (call (Value.builtin "len") _) _ _ _); k_dflt (refine' len_list ?k1 ?k2 ?_; (case k1 => exact isl2 (by assumption) (by assumption) (by assumption)); (case k2 => (rw [List.size_toArray]; omega))); (try rw [List.size_toArray])) | ((with_reducible show wpAny _ _ (subscriptTail _ _ (Value.ref _) (Value.int _ _)) _ _ _); k_dflt (refine' item_big ?k1 ?k2 ?k3 ?k4 ?k5 ?_ ?k6; (case k2 => exact isl2 (by assumption) (by assumption) (by assumption)); (case k1 => assumption); (case k3 => assumption); (case k4 => omega); (case k5 => assumption); (case k6 => with_unfolding_all rfl); k_whole); intro x' t') | walk1 | (dsimp only; walk1) | (leave1; (try dsimp only)) | fail "no step"))
  all_goals (with_reducible rename Apart _ _ => hD)
  all_goals
    refine' hret _ _ _ _ (.mk _ _ _ _ _ _ (NewA.of0 hD ?sb)) ?fr ?nn
    case fr => k_asm
    case nn => k_asm
    case sb => k_mem
theorem con_useL {prog : Program} {w : World} {dep : Nat} {f : Addr} {vs : List Value} {news : List (Addr × Obj)} {sc : Addr} {xs : List Value} {Post : Value → List (Addr × Obj) → Prop} (C : ConL prog w dep f vs news sc xs Post)
    {mean : ExcName → Option Value} {mg mb : Str → Option Value} {dp un : Nat} {gd : Option (List Code)} {cn : Str} {cs : Scope} {a : Addr} {ccd : Value} {cl : List (Str × Addr)} {outer : List Env} {A₀ : Around} {base h₀ : Heap} {L : Addr} {m : Str → Option Value} {s : Shared} {Q E : Value → Shared → Prop}
    (B : Below A₀ base outer h₀) (F : Fr h₀ L s.heap m) (X : (mk0.heap_1 w.params).In h₀) (N : News h₀ L s.heap news) (T : Top mk0.view_1 (looseW mk0.view_1 lo) mean mg mb h₀) (hk : cs.kind = .function) (hd : dp + dep < recursionLimit) (hu : un + 8 * dep < cLine) (hl : h₀.IsList sc xs.toArray)
    (ret : ∀ (v : Value) (news' : List (Addr × Obj)), Post v news' → ∀ (h' : Heap) (tk' : Nat), Fr h₀ L h' m → News h₀ L h' news' → Q v { s with heap := h', toks := tk' }) :
    wpAny (model prog w) (ktrTop dp un gd cn cs L a ccd cl outer) (call (.ref f) vs) Q E s :=
  C mean mg mb dp un gd cn cs a ccd cl outer A₀ base h₀ L m s Q E B F X N T hk hd hu hl fun v l h' tk' p => ret v l p h' tk'
theorem range12 {M : Model} {A : Around} {E : Value → Shared → Prop} {s : Shared} {x : Int} {t : Tok} {Q : Value → Shared → Prop} (h : x = 1 ∨ x = 2) (k1 : wpAny M A (call (.type "range") [.int 1 t]) Q E s) (k2 : wpAny M A (call (.type "range") [.int 2 t]) Q E s) : wpAny M A (call (.type "range") [.int x t]) Q E s := by
  rcases h with rfl | rfl
  · exact k1
  · exact k2
theorem unrEnd_use {h₀ : Heap} {L I : Addr} {it : Obj} {R : (Str → Option Value) → List (Addr × Obj) → Prop} {s₁ : Shared} {h' : Heap} {tk : Nat} {m' : Str → Option Value} {as : List Addr} {all news' le rest : List (Addr × Obj)} (F : Fr h₀ L h' m') (N : News h₀ L h' all) (D : Apart as rest) (e1 : all.drop as.length = rest) (e2 : (all.take as.length).map (·.1) = as) (o : Out (I, it) all news') (hI : I ∈ as) (S : Split rest news' le)
    (k : Apart (I :: le.map (·.1)) rest → R m' news') : UnrEnd h₀ L s₁ I it R { s₁ with heap := h', toks := tk } := by
  have P : List.Perm all ((I, it) :: news') := o.perm
  have c := D.count hI e1 e2
  rw [(P.map (·.1)).count_eq, List.map_cons, List.count_cons_self] at c
  have hz : (news'.map (·.1)).count I = 0 := by omega
  have off : ∀ p ∈ news', p.1 ≠ I := fun p hp e => List.count_eq_zero.mp hz (List.mem_map.mpr ⟨p, hp, e⟩)
  refine UnrEnd.intro F N news' (fun p hp => P.symm.subset hp) off (k ?_)
  have h1 : all.map (·.1) = as ++ rest.map (·.1) := by rw [split_at e1, List.map_append, e2]
  have h2 : List.Perm (as ++ rest.map (·.1)) ((I :: le.map (·.1)) ++ rest.map (·.1)) := by
    rw [← h1]
    refine (P.map (·.1)).trans ?_
    rw [S.eq, List.map_cons, List.map_append, List.cons_append]
  have h3 : List.Perm as (I :: le.map (·.1)) := (List.perm_append_right_iff _).mp h2
  exact ⟨h3.nodup_iff.mp D.1, fun a ha => D.2 a (h3.symm.subset ha)⟩

theorem end_k (te : Bool) : kindS (Str.ofString "rapid") (Str.ofString "root") ⟨1, 1, 2, 2, 5, 8, 1⟩ ⟨1, 1, 2, 2, 5, 8, 1⟩ te = Str.ofString "answer" := by
  have h1 : (Str.ofString "rapid" == Str.ofString "config") = false := rfl
  have h2 : (Str.ofString "root" == Str.ofString "designated") = false := rfl
  have h3 : ([Str.ofString "root", Str.ofString "alternate"].any fun x => x == Str.ofString "root") = true := rfl
  have h4 : vlt ⟨1, 1, 2, 2, 5, 8, 1⟩ ⟨1, 1, 2, 2, 5, 8, 1⟩ = false := by simp [vlt, Vec.ls, lexL]
  simp only [kindS, h1, h2, h3, h4, Bool.or_self, cond_false, Bool.not_false, Bool.and_self, cond_true]
theorem end_ad (te : Bool) (W : Wd) (b : Bp) : (dueW (kindS (Str.ofString "rapid") (Str.ofString "root") ⟨1, 1, 2, 2, 5, 8, 1⟩ ⟨1, 1, 2, 2, 5, 8, 1⟩ te) W b).ad = (b.st && b.rapid && b.ia) := by
  rw [end_k, ← due4 (W := W) (b := b) (K := Str.ofString "answer") rfl rfl rfl rfl]
  rfl
local macro_rules | `(tactic| k_qdec) => `(tactic| decide +kernel)
set_option maxHeartbeats 4000000 in
theorem said_ok : PySem.W.OpenLaw.wellSaid PySem.Challenge.rw_pc0378_01 = true := by
  rw [PySem.W.Fast.te9446332074065402090]
  unfold PySem.W.Fast.tw9446332074065402090
  iterate 18 (refine look_both ?_ (by decide +kernel))
  unfold PySem.W.Fast.tw17960256430627541270
  iterate 2 (refine look_both ?_ (by decide +kernel))
  unfold PySem.W.Fast.tw2436336058641802641
  repeat (with_reducible refine look_both ?_ (by decide +kernel))
  unfold PySem.W.Fast.tw12908688711261696721
  repeat (with_reducible refine look_both ?_ (by decide +kernel))
  decide +kernel
set_option maxHeartbeats 32000000 in
theorem main_holds : PySem.Challenge.rw_pc0378_01.Holds := by
  w_on
  refine PySem.W.holds_law said_ok fun said => ?_
  refine PySem.W.holds_open (q := mk0.view_1) (loose := lo) (Xt := viewX) (XP := XL mk0.view_1 []) (Yf := hkK.obs) (Ya := hkK.val) (YP := hkK.says) (N := 3000) left_all hkK.of hkK.keeps (fun s e => xl_of s (Bool.and_eq_true_iff.mp e).1) XL.keeps (by rfl) (by rfl) (by rfl) (fun s e => recFacts_of (Bool.and_eq_true_iff.mp e).2) (by rfl) (by assumption) (by decide +kernel) ⟨rfl, rfl, rfl, rfl, rfl, by decide +kernel⟩ ?hw ?hc
  case hw => w_witness2
  case hc => w_strict (k_go0; (all_goals try k_fold); (have hD0 := Apart.nil (rest := [])); (repeat' (first | (k_unfold; (try dsimp only)) | ((with_reducible show wpAny _ _ (call (Value.ref _) _) _ _ _); first | ((with_reducible show wpAny _ _ (call (Value.ref 412) _) _ _ _); refine' con_use (turn_c _ ?U) ?k1 ?k2 ?k3 ?k4 ?k5 ?k6 ?k7 ?k8 ?_; (case k1 => k_asm); (case k2 => k_asm); (case k3 => k_asm); (case k4 => k_asm); (case k5 => k_asm); (case U => k_updF); (case k6 => first | exact rfl | assumption); (case k7 => ktr_room); (case k8 => ktr_units); refine' TurnP.ret ?_; intro a' b' ta' tb' n'; intro h' tk' F' N'; (try dsimp only at N'); (try k_sweep)) | ((with_reducible show wpAny _ _ (call (Value.ref 321) _) _ _ _); refine' con_use (mkport_c _ ?h1 ?h2) ?k1 ?k2 ?k3 ?k4 ?k5 ?k6 ?k7 ?k8 ?_; (case k1 => k_asm); (case k2 => k_asm); (case k3 => k_asm); (case k4 => k_asm); (case k5 => k_asm); (case h1 => k_mem); (case h2 => k_mem); (case k6 => first | exact rfl | assumption); (case k7 => ktr_room); (case k8 => ktr_units); refine' MkP.ret ?_; intro pa pd ta td ca cd k kt kc u ut uc ti tl hn'; (with_reducible rename Apart _ _ => hD); (have hD2 := Apart.more hD hn' rfl rfl); clear hD hn'; dsimp only [List.cons_append, List.nil_append] at hD2; intro h' tk' F' N'; (try dsimp only at N'); (try k_sweep)) | ((with_reducible show wpAny _ _ (call (Value.ref 202) _) _ _ _); refine' con_use (row_c _) ?k1 ?k2 ?k3 ?k4 ?k5 ?k6 ?k7 ?k8 ?_; (case k1 => k_asm); (case k2 => k_asm); (case k3 => k_asm); (case k4 => k_asm); (case k5 => k_asm); (case k6 => first | exact rfl | assumption); (case k7 => ktr_room); (case k8 => ktr_units); refine' RowP.ret ?_; intro x d k u hn'; (with_reducible rename Apart _ _ => hD); (have hD2 := Apart.more hD hn' rfl rfl); clear hD hn'; dsimp only [List.cons_append, List.nil_append] at hD2; intro h' tk' F' N'; (try dsimp only at N'); (try k_sweep)) | ((with_reducible show wpAny _ _ (call (Value.ref 237) _) _ _ _); refine' con_use (timers_c _) ?k1 ?k2 ?k3 ?k4 ?k5 ?k6 ?k7 ?k8 ?_; (case k1 => k_asm); (case k2 => k_asm); (case k3 => k_asm); (case k4 => k_asm); (case k5 => k_asm); (case k6 => first | exact rfl | assumption); (case k7 => ktr_room); (case k8 => ktr_units); refine' TimersP.ret ?_; intro x d k u tk hn'; (with_reducible rename Apart _ _ => hD); (have hD2 := Apart.more hD hn' rfl rfl); clear hD hn'; dsimp only [List.cons_append, List.nil_append] at hD2; intro h' tk' F' N'; (try dsimp only at N'); (try k_sweep)) | ((with_reducible show wpAny _ _ (call (Value.ref 272) _) _ _ _); refine' con_use (change_c _) ?k1 ?k2 ?k3 ?k4 ?k5 ?k6 ?k7 ?k8 ?_; (case k1 => k_asm); (case k2 => k_asm); (case k3 => k_asm); (case k4 => k_asm); (case k5 => k_asm); (case k6 => first | exact rfl | assumption); (case k7 => ktr_room); (case k8 => ktr_units); refine' ChangeP.ret ?_; intro x d k u hn'; (with_reducible rename Apart _ _ => hD); (have hD2 := Apart.more hD hn' rfl rfl); clear hD hn'; dsimp only [List.cons_append, List.nil_append] at hD2; intro h' tk' F' N'; (try dsimp only at N'); (try k_sweep)) | ((with_reducible show wpAny _ _ (call (Value.ref 53) _) _ _ _); refine' con_use (tctor_c _) ?k1 ?k2 ?k3 ?k4 ?k5 ?k6 ?k7 ?k8 ?_; (case k1 => k_asm); (case k2 => k_asm); (case k3 => k_asm); (case k4 => k_asm); (case k5 => k_asm); (case k6 => first | exact rfl | assumption); (case k7 => ktr_room); (case k8 => ktr_units); refine' TctorP.ret ?_; intro x dx k1 k2 k3 k4 hn'; (with_reducible rename Apart _ _ => hD); (have hD2 := Apart.more hD hn' rfl rfl); clear hD hn'; dsimp only [List.cons_append, List.nil_append] at hD2; intro h' tk' F' N'; (try dsimp only at N'); (try k_sweep)) | ((with_reducible show wpAny _ _ (call (Value.ref 89) _) _ _ _); refine' con_use (bpdu10_c _) ?k1 ?k2 ?k3 ?k4 ?k5 ?k6 ?k7 ?k8 ?_; (case k1 => k_asm); (case k2 => k_asm); (case k3 => k_asm); (case k4 => k_asm); (case k5 => k_asm); (case k6 => first | exact rfl | assumption); (case k7 => ktr_room); (case k8 => ktr_units); refine' BpduP.ret ?_; intro x dx kb' ub' hn'; (with_reducible rename Apart _ _ => hD); (have hD2 := Apart.more hD hn' rfl rfl); clear hD hn'; dsimp only [List.cons_append, List.nil_append] at hD2; intro h' tk' F' N'; (try dsimp only at N'); (try k_sweep)) | ((with_reducible show wpAny _ _ (call (Value.ref 89) _) _ _ _); refine' con_use (bpdu9_c _) ?k1 ?k2 ?k3 ?k4 ?k5 ?k6 ?k7 ?k8 ?_; (case k1 => k_asm); (case k2 => k_asm); (case k3 => k_asm); (case k4 => k_asm); (case k5 => k_asm); (case k6 => first | exact rfl | assumption); (case k7 => ktr_room); (case k8 => ktr_units); refine' BpduP.ret ?_; intro x dx kb' ub' hn'; (with_reducible rename Apart _ _ => hD); (have hD2 := Apart.more hD hn' rfl rfl); clear hD hn'; dsimp only [List.cons_append, List.nil_append] at hD2; intro h' tk' F' N'; (try dsimp only at N'); (try k_sweep)) | ((with_reducible show wpAny _ _ (call (Value.ref 89) _) _ _ _); refine' con_use (bpdu2_c _) ?k1 ?k2 ?k3 ?k4 ?k5 ?k6 ?k7 ?k8 ?_; (case k1 => k_asm); (case k2 => k_asm); (case k3 => k_asm); (case k4 => k_asm); (case k5 => k_asm); (case k6 => first | exact rfl | assumption); (case k7 => ktr_room); (case k8 => ktr_units); refine' BpduP.ret ?_; intro x dx kb' ub' hn'; (with_reducible rename Apart _ _ => hD); (have hD2 := Apart.more hD hn' rfl rfl); clear hD hn'; dsimp only [List.cons_append, List.nil_append] at hD2; intro h' tk' F' N'; (try dsimp only at N'); (try k_sweep)) | ((with_reducible show wpAny _ _ (call (Value.ref 121) _) _ _ _); refine' con_use (heard_c _ ?h1 ?h2 ?h3 ?h4 ?h7 ?h8 ?h5 ?h6 ?hx ?hy) ?k1 ?k2 ?k3 ?k4 ?k5 ?k6 ?k7 ?k8 ?_; (case k1 => k_asm); (case k2 => k_asm); (case k3 => k_asm); (case k4 => k_asm); (case k5 => k_asm); (case h1 => k_mem); (case h2 => k_mem); (case h3 => k_mem); (case h4 => k_mem); (case h7 => k_mem); (case h8 => k_mem); (case h5 => k_mem); (case h6 => k_mem); (case hx => k_all); (case hy => k_all); (case k6 => first | exact rfl | assumption); (case k7 => ktr_room); (case k8 => ktr_units); refine' KindP.ret ?_; intro t9; intro h' tk' F' N'; (try dsimp only at N'); (try k_sweep))) | ((with_reducible show wpAny _ _ (call (Value.ref 177) _) _ _ _); (with_reducible rename Apart _ _ => hD); (with_reducible rename News _ _ _ _ => hN); k_dflt (refine' told_use (oc := dictOf (changeE _ _ _ _ _ _) 6) (ot := dictOf (timersE _ _ _ _) 8) (op := dictOf (portE _ _ _ _ _ _ _ _ _ _ _ _ _ _ _ _ _) 33) hD rfl rfl hN ?o1 ?o2 ?o3 ?hc ?ht ?hp ?_; (case o1 => k_mem); (case o2 => k_mem); (case o3 => k_mem); (case hc => k_mem); (case ht => k_mem); (case hp => k_mem)); intro hD3 hN3; clear hD; refine' con_use (told_c (X := ⟨1, 1, 2, 2, 5, 8, 1⟩) (Y := ⟨1, 1, 2, 2, 5, 8, 1⟩) _ ?D0 ?h1 ?hta ?hca ?hra ?hrd ?h5 ?h6 ?h3 ?h4 ?h7 ?h8 ?hx ?hy ?hkin ?hW) ?k1 ?k2 ?k3 ?k4 ?k5 ?k6 ?k7 ?k8 ?_; (case k1 => k_asm); (case k2 => k_asm); (case k3 => k_asm); (case k4 => exact hN3); (case k5 => k_asm); (case D0 => exact hD3); (case h1 => k_mem); (case hta => k_mem); (case hca => k_mem); (case hra => k_mem); (case hrd => k_mem); (case h5 => k_mem); (case h6 => k_mem); (case h3 => k_mem); (case h4 => k_mem); (case h7 => k_mem); (case h8 => k_mem); (case hx => exact IsVec.intro (by k_mem) (by k_mem) (by k_mem) (by k_mem)); (case hy => exact IsVec.intro (by k_mem) (by k_mem) (by k_mem) (by k_mem)); (case hkin => exact rfl); (case hW => first | with_reducible assumption | exact rfl); (case k6 => first | exact rfl | assumption); (case k7 => ktr_room); (case k8 => ktr_units); refine' ToldEnd.ret ?_; intro l2' xb' xbd' q1' q2' q3' q4' q5' q6' q7' q8' tl' ti' hn' hm1' hm2' h' tk' F' N'; refine' rot_use (bs := []) (E := []) hD3 hn' rfl rfl (by k_mem) N' ?_; clear hD3 hN3 N' hn'; intro hD2 N'; dsimp only [List.cons_append, List.nil_append] at N' hD2; simp only [end_ad, Bool.false_and] at N'; (try k_sweep)) | ((fail_if_success (with_reducible show wpAny _ _ _ _ _ _)); first | ((with_reducible rename Apart _ _ => hD); k_dflt (refine' unrEnd_use ?F ?N hD ?e1 ?e2 ?o ?hI ?S ?_; (case F => k_asm); (case N => k_asm); (case e1 => exact rfl); (case e2 => exact rfl); (case o => k_mem); (case hI => k_mem); (case S => k_mem)); intro hD2; clear hD; simp only [List.map_cons, List.map_nil] at hD2) | (with_reducible first | ((refine RangeRest.zero (fun h' tk' F' N' => ?_)); (rename Apart _ _ => hD); k_dflt (have hD2 := Apart.sub hD (List.Sublist.cons _ (List.Sublist.refl _))); clear hD) | (refine RangeRest.succ (fun t' h' tk' F' N' => ?_)))) | ((with_reducible show wpAny _ _ (call _ [Value.int (ite _ _ _) _]) _ _ _); k_dflt (refine' range12 ?h ?_ ?_; (case h => ((repeat' split) <;> omega)))) | ((with_reducible show wpAny _ _ (call (Value.ref 332) _) _ _ _); refine' con_useL (pool_c _ ?hi ?hn ?h0 ?h2) ?k1 ?k2 ?k3 ?k4 ?k5 ?k6 ?k7 ?k8 ?k9 ?_; (case k1 => k_asm); (case k2 => k_asm); (case k3 => k_asm); (case k4 => k_asm); (case k5 => k_asm); (case k9 => k_asm); (case hi => k_asm); (case hn => omega); (case h0 => decide); (case h2 => decide); (case k6 => first | exact rfl | assumption); (case k7 => ktr_room); (case k8 => ktr_units); refine' PoolP.ret ?_; intro a' x' y' tx' ty' n' hn'; (first | ((with_reducible rename Apart _ _ => hD); (have hD2 := Apart.more hD hn' rfl rfl); clear hD hn'; dsimp only [List.cons_append, List.nil_append] at hD2) | ((have hD2 := Apart.more (Apart.nil (rest := [])) hn' rfl rfl); clear hn'; dsimp only [List.cons_append, List.nil_append] at hD2)); intro h' tk' F' N'; (try dsimp only at N'); (try k_sweep)) | (w_end; kc_bool; (refine goodW_bool (by with_reducible assumption) (by with_reducible assumption) (raisesW_false ?_) ?_); (· wrow_none_raised); (· (refine postW_of (by wrow_shape) (w_eq_bool (w_res rfl) w_lit) ?_); first | exact rfl | exact beq_self_eq_true _)) | walk1 | (dsimp only; walk1) | (leave1; (try dsimp only)) | fail "no step")))
end Mine
theorem PySem.Challenge.cw_pc0378_01_holds : PySem.Challenge.rw_pc0378_01.Holds := by
  exact Mine.main_holds

