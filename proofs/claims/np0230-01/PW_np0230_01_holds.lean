import PyProof.Rows.All
import Wide.All
import OpenK.AllK
import Wide.FinOn
import Lean
import PySem.Challenge.RW_np0230_01
open PySem PySem.W PyProof.Rows PySem.Calls PyProof.V PySem.Spec
set_option Elab.async false
set_option compiler.extract_closed false
set_option maxRecDepth 100000
set_option maxHeartbeats 4000000
namespace Mine
section
-- the head: the text's top, run in one pass over the tree of objects (SharedT), with the library's twins of stepOk, stepT, denote, treeTable
noncomputable abbrev view : Program := PySem.W.view PySem.Challenge.pw_np0230_01 [1, 2, 4, 5, 6, 7, 8, 9, 10, 12, 13, 14, 15, 16, 17, 19, 20, 21, 22, 23, 24, 25, 26, 27, 28, 29, 31, 32, 33, 35, 36, 37, 38, 39, 40, 41, 42, 43, 44, 45, 46, 47, 48]
section
open PySem.W
noncomputable def topRunQ (p : Program) (w : World) (n₀ : Nat) (ann : Option Value) (n : Nat) : SharedT → Thread → Option SharedT :=
  @Nat.rec (fun _ => SharedT → Thread → Option SharedT) (fun _ _ => none)
    (fun _ ih s t => match through t with
      | true => some s
      | false => match PySem.W.Fast.tw6613529449190102663 n₀ ann t with
        | false => none
        | true => match PySem.W.Fast.tw10156331382660048174 (PySem.W.Fast.tw11892475500146522536 PySem.W.Fast.tw14364793385576792824) p w s t with
          | some r => ih r.1 r.2
          | none => none) n
theorem topRunQ_of {p : Program} {w : World} {n₀ : Nat} {ann : Option Value} : ∀ {n : Nat} {s s' : SharedT} {t : Thread}, topRunQ p w n₀ ann n s t = some s' → topRun treeTable p w n₀ ann n s.abs t = some s'.abs
  | 0, _, _, _, h => by cases h
  | n + 1, s, s', t, h => by
    change (match through t with
      | true => some s
      | false => match PySem.W.Fast.tw6613529449190102663 n₀ ann t with
        | false => none
        | true => match PySem.W.Fast.tw10156331382660048174 (PySem.W.Fast.tw11892475500146522536 PySem.W.Fast.tw14364793385576792824) p w s t with
          | some r => topRunQ p w n₀ ann n r.1 r.2
          | none => none) = some s' at h
    rw [← PySem.W.Fast.te6613529449190102663, ← PySem.W.Fast.te10156331382660048174, ← PySem.W.Fast.te11892475500146522536, ← PySem.W.Fast.te14364793385576792824] at h
    unfold topRun
    cases he : through t with
    | true => rw [he] at h; cases h; rfl
    | false =>
      rw [he] at h
      cases hk : stepOk n₀ ann t with
      | false => rw [hk] at h; cases h
      | true =>
        rw [hk] at h
        cases hs : stepT (denote treeTable) p w s t with
        | none => rw [hs] at h; cases h
        | some r => obtain ⟨s₂, t₂⟩ := r; rw [hs] at h; rw [stepT_spec hs]; exact topRunQ_of h
noncomputable def ofL : List Obj → Nat → BT → BT
  | [], _, t => t
  | o :: r, n, t => ofL r (n + 1) (t.ins n o)
noncomputable def tree0 (P : Params) : BT := ofL (boot_heap P).objs.toList 0 BT.nil
theorem tree0_abs (P : Params) : absHeap (tree0 P) 11 {} = boot_heap P := by kernel_rfl
noncomputable def top0 (w : World) (os : OsState) : SharedT := ⟨tree0 w.params, 11, {}, #[], boot_drawn, boot_toks, os⟩
theorem left_of {p q : Program} {loose : List Str} {Xt : Shared → Bool} {α : Type} {Yf : Shared → α} {Ya : World → α} {N : Nat} {g0 : Bool}
    (open_ : ∀ w : World, (fencedOpening treeTable p w N).map (fun s => (s.heap, s.gens, s.drawn, s.toks)) = some (boot_heap w.params, #[], boot_drawn, boot_toks))
    (size : ∀ w : World, ((boot_heap w.params).isNs mainGlobals && (#[] : Array GenState).size == 0, (boot_heap w.params).objs.size, (boot_heap w.params).nsMap mainGlobals "__annotations__") = (true, 11, some (.ref 6)))
    (c : ∀ (w : World) (os : OsState), (topRunQ p w 11 (some (.ref 6)) N (top0 w os) (topStub p)).map (fun s => (staticsOk (importedModules p.main.body) (boot_heap w.params) s.abs.heap && namesBound p s.abs.heap && gensDone s.abs && laidKept (boot_heap w.params) s.abs.heap, openSeen q loose (importedModules p.main.body) Xt g0 s.abs, Yf s.abs)) = some (true, openGood q loose, Ya w)) : LeftO p q loose Xt Yf Ya N g0 := fun w => by
  obtain ⟨⟨h, gs, d, k, os⟩, e, e'⟩ := Option.map_eq_some_iff.mp (open_ w)
  obtain ⟨rfl, rfl, rfl, rfl⟩ : h = boot_heap w.params ∧ gs = #[] ∧ d = boot_drawn ∧ k = boot_toks := by simpa using e'
  obtain ⟨z1, z2, z3⟩ : _ ∧ _ ∧ _ := by simpa only [Prod.mk.injEq] using size w
  obtain ⟨s', r, l⟩ := Option.map_eq_some_iff.mp (c w os)
  have l1 := (Prod.mk.inj l).1
  have l2 := (Prod.mk.inj (Prod.mk.inj l).2).1
  have l3 := (Prod.mk.inj (Prod.mk.inj l).2).2
  have r := topRunQ_of r
  have r : topRun treeTable p w 11 (some (.ref 6)) N ⟨boot_heap w.params, #[], boot_drawn, boot_toks, os⟩ (topStub p) = some s'.abs := by
    rw [← tree0_abs]; exact r
  have t : topFrom treeTable p w N ⟨boot_heap w.params, #[], boot_drawn, boot_toks, os⟩ = some s'.abs := by
    unfold topFrom
    dsimp only
    rw [z1, z2, z3, r]
    show (match staticsOk (importedModules p.main.body) (boot_heap w.params) s'.abs.heap && namesBound p s'.abs.heap && gensDone s'.abs && laidKept (boot_heap w.params) s'.abs.heap with | true => _ | false => _) = _
    rw [l1]
  unfold openEnds
  rw [e]
  show (topFrom treeTable p w N _).map _ = _
  rw [t]
  exact congrArg some (Prod.ext l2 l3)
theorem two_of {A B R : Prop} (f : A → B → R) (h : A ∧ B) : R := f h.1 h.2
end
theorem said_q : PySem.W.Fast.tw9446332074065402090 PySem.Challenge.rw_np0230_01 = true := by kernel_rfl
theorem said_law : PySem.W.OpenLaw.wellSaid PySem.Challenge.rw_np0230_01 = true := by rw [PySem.W.Fast.te9446332074065402090]; exact said_q
local macro_rules | `(tactic| o_law) => `(tactic| refine PySem.W.holds_law said_law fun said => ?_)
local macro_rules | `(tactic| o_head $H) => `(tactic| (refine' two_of (fun hl hc => PySem.W.holds_open (q := view) (loose := [Str.ofString "LazyError", Str.ofString "Var", Str.ofString "Con", Str.ofString "Lit", Str.ofString "App", Str.ofString "Op", Str.ofString "Neg"]) (Xt := fun s => PySem.W.xlAt view [] s && PySem.W.recOk (PySem.W.RowW.records PySem.Challenge.rw_np0230_01.row.toRowW) s) (XP := PySem.W.XL view []) (Yf := PySem.W.Hook.obs $H) (Ya := PySem.W.Hook.val $H) (YP := PySem.W.Hook.says $H) (N := 8550) hl (PySem.W.Hook.of $H) (PySem.W.Hook.keeps $H)
    (fun s e => PySem.W.xl_of s (Bool.and_eq_true_iff.mp e).1) PySem.W.XL.keeps (by rfl) (by rfl) (by rfl) (fun s e => PySem.W.recFacts_of (Bool.and_eq_true_iff.mp e).2) (by rfl) (by clear hl hc; assumption) (by decide +kernel) ⟨rfl, rfl, rfl, rfl, rfl, by decide +kernel⟩ ?hw hc) ?hc))
open_top hd for PySem.Challenge.rw_np0230_01
theorem top_off : True := by
  w_top off
  trivial

end
section
noncomputable abbrev hook : PySem.W.Hook := PySem.W.kmHook Mine.hd.heap_1 [2, 3, 15, 22, 23, 25, 26, 28, 29, 30, 31, 32, 33, 36, 43, 44, 45, 55, 57, 58, 60, 61, 62, 64, 65, 67, 68, 69, 70, 71, 72, 73, 76, 83, 84, 86, 87, 89, 90, 91, 
    93, 94, 96, 97, 98, 99, 100, 103, 110, 111, 113, 114, 116, 117, 118, 120, 121, 123, 124, 125, 126, 127, 130, 137, 138, 140, 141, 143, 144, 145, 147, 148, 150, 151, 152, 153, 154, 157, 164, 165, 
    167, 168, 170, 171, 172, 174, 175, 177, 178, 179, 180, 181, 184, 191, 192, 194, 195, 197, 198, 199, 201, 202, 204, 205, 206, 207, 208, 211, 218, 219, 221, 222, 224, 225, 226, 228, 229, 231, 232, 233, 
    234, 235, 245, 247, 248, 250, 251, 252, 253, 254, 255, 256, 259, 261, 262, 264, 265, 266, 268, 269, 271, 272, 273, 275, 276, 278, 279, 280, 282, 283, 285, 286, 294, 296, 297, 299, 300, 301, 302, 303, 
    304, 305, 308, 310, 311, 313, 314, 315, 317, 318, 320, 321, 329, 331, 332, 334, 335, 336, 338, 339, 341, 342, 343, 345, 346, 348, 349, 350, 352, 353, 355, 356, 357, 359, 360, 362, 363, 364, 366, 367, 
    369, 370, 371, 373, 374, 376, 377, 378, 380, 381, 383, 384, 385, 387, 388, 390, 391, 392, 393, 394, 395, 396, 399, 401, 402, 404, 405, 406, 408, 409, 411, 412, 413, 415, 416, 418, 419, 420, 422, 423, 
    425, 426, 427, 429, 430, 432, 433, 434, 436, 437, 439, 440, 441, 443, 444, 446, 447, 448, 450, 451, 453, 454, 455, 457, 458, 460, 461, 462, 464, 465, 467, 468, 469, 471, 472, 474, 475, 476, 478, 479, 
    481, 482, 483, 485, 486, 488, 489, 490, 492, 493, 495, 496, 497, 499, 500, 502, 503, 504, 506, 507, 509, 510, 511, 514, 515, 516, 518, 519, 521, 522, 523, 526, 527, 528, 531, 532] (fun _ => by kernel_rfl) [524, 529]
noncomputable abbrev looseNames : List Str := [Str.ofString "LazyError", Str.ofString "Var", Str.ofString "Con", Str.ofString "Lit", Str.ofString "App", Str.ofString "Op", Str.ofString "Neg"]
noncomputable abbrev extra : Shared → Bool := fun s => PySem.W.xlAt view [] s && PySem.W.recOk (PySem.W.RowW.records PySem.Challenge.rw_np0230_01.row.toRowW) s
theorem chk (w : World) (os : OsState) : (topRunQ PySem.Challenge.pw_np0230_01 w 11 (some (.ref 6)) 8550 (top0 w os) (PySem.W.topStub PySem.Challenge.pw_np0230_01)).map (fun s => (PySem.W.staticsOk (PySem.W.Fast.tw5923862056798008813 PySem.Challenge.pw_np0230_01.main.body) (PySem.W.boot_heap w.params) s.abs.heap && PySem.W.namesBound PySem.Challenge.pw_np0230_01 s.abs.heap && PySem.W.gensDone s.abs && PySem.W.laidKept (PySem.W.boot_heap w.params) s.abs.heap, PySem.W.Fast.tw4187177175401517315 view looseNames (PySem.W.Fast.tw5923862056798008813 PySem.Challenge.pw_np0230_01.main.body) extra true s.abs, hook.obs s.abs)) = some (true, PySem.W.openGood view looseNames, hook.val w) := by kernel_rfl
theorem opens : ∀ w : World, (PySem.W.fencedOpening treeTable PySem.Challenge.pw_np0230_01 w 8550).map (fun s => (s.heap, s.gens, s.drawn, s.toks)) = some (PySem.W.boot_heap w.params, #[], PySem.W.boot_drawn, PySem.W.boot_toks) :=
  PySem.W.boot_open (by kernel_rfl) (by decide) (fun s => by kernel_rfl)
theorem sizes (w : World) : ((PySem.W.boot_heap w.params).isNs mainGlobals && (#[] : Array GenState).size == 0, (PySem.W.boot_heap w.params).objs.size, (PySem.W.boot_heap w.params).nsMap mainGlobals "__annotations__") = (true, 11, some (.ref 6)) := by kernel_rfl
theorem left : PySem.W.LeftO PySem.Challenge.pw_np0230_01 view looseNames extra hook.obs hook.val 8550 true :=
  left_of opens sizes fun w os => by have h := chk w os; rw [← PySem.W.Fast.te5923862056798008813, ← PySem.W.Fast.te4187177175401517315] at h; exact h

end
section
-- ## the data
inductive Nm | a | b | c | col | mi
  deriving DecidableEq
inductive Wy | l | r | n
  deriving DecidableEq
structure Fx where
  wy : Wy
  lv : Nat
  deriving DecidableEq
structure Tb where
  fa : Fx
  fb : Fx
  fc : Fx
noncomputable def Nm.str : Nm → Str
  | .a => Str.ofString "a"
  | .b => Str.ofString "b"
  | .c => Str.ofString "c"
  | .col => Str.ofString ":"
  | .mi => Str.ofString "-"
noncomputable def Wy.str : Wy → Str
  | .l => Str.ofString "left"
  | .r => Str.ofString "right"
  | .n => Str.ofString "none"
noncomputable def Tb.get (T : Tb) : Nm → Fx
  | .a => T.fa
  | .b => T.fb
  | .c => T.fc
  | .col => ⟨.r, 5⟩
  | .mi => ⟨.l, 6⟩
inductive Tr
  | leaf (i : Nat)
  | neg (t : Tr)
  | bin (x : Nm) (l r : Tr)
noncomputable def Tr.size : Tr → Nat
  | .leaf _ => 0
  | .neg t => t.size + 1
  | .bin _ l r => l.size + r.size + 1

-- ## the data in the ledger
abbrev Led := List (Addr × Obj)
abbrev tupO (vs : List Value) (n : Nat) : Obj := { cls := .type "tuple", data := .seq vs.toArray n }
inductive TrIn (P : Led) : Value → Tr → Prop
  | leaf (i : Nat) (t : Tok) : TrIn P (.int i t) (.leaf i)
  | neg {a : Addr} {v : Value} {t : Tr} {tk : Tok} {n : Nat} : (a, tupO [.str (Str.ofString "-") tk, v] n) ∈ P → TrIn P v t → TrIn P (.ref a) (.neg t)
  | bin {a : Addr} {x : Nm} {u v : Value} {l r : Tr} {tk : Tok} {n : Nat} : (a, tupO [.str x.str tk, u, v] n) ∈ P → TrIn P u l → TrIn P v r → TrIn P (.ref a) (.bin x l r)
theorem TrIn.mono {P P' : Led} (h : ∀ p ∈ P, p ∈ P') {v : Value} {t : Tr} (x : TrIn P v t) : TrIn P' v t := by
  induction x with
  | leaf i t => exact .leaf i t
  | neg m _ ih => exact .neg (h _ m) ih
  | bin m _ _ i1 i2 => exact .bin (h _ m) i1 i2
noncomputable def FxIn (P : Led) (v : Value) (f : Fx) : Prop := ∃ a t u n, v = .ref a ∧ (a, tupO [.str f.wy.str t, .int f.lv u] n) ∈ P
noncomputable def TbIn (prog : Program) (w : World) (P : Led) (v : Value) (T : Tb) : Prop :=
  ∃ d o kvs, v = .ref d ∧ (d, o) ∈ P ∧ (d == sysModules) = false ∧ o.IsDictOf (strKind prog w) kvs ∧ ∀ x : Nm, ∃ u, valueAt kvs x.str = some u ∧ FxIn P u (T.get x)

theorem TbIn.mono {prog : Program} {w : World} {P P' : Led} {v : Value} {T : Tb} (x : TbIn prog w P v T) (h : ∀ p ∈ P, p ∈ P') : TbIn prog w P' v T := by
  obtain ⟨d, o, kvs, e, hm, hne, ho, hk⟩ := x
  refine ⟨d, o, kvs, e, h _ hm, hne, ho, fun x => ?_⟩
  obtain ⟨u, hu, a, t, k, n, e', hm'⟩ := hk x
  exact ⟨u, hu, a, t, k, n, e', h _ hm'⟩
noncomputable abbrev LOO : List Str := looseW view [Str.ofString "LazyError", Str.ofString "Var", Str.ofString "Con", Str.ofString "Lit", Str.ofString "App", Str.ofString "Op", Str.ofString "Neg"]
noncomputable abbrev LO2 : List Str := LOO ++ (recsOf view).map (·.name) ++ (litsOf view).map (·.1) ++ (clssOf view LOO).map (·.name)

noncomputable def Spec (w : World) (f : Addr) {D : Type} (dep : D → Nat) (Pre : Led → List Value → D → Prop) (Post : Led → Value → D → Prop) : Prop :=
  ∀ (mean : ExcName → Option Value) (mg mb : Str → Option Value) (dp un : Nat) (gd : Option (List Code)) (cn : Str) (cs : Scope) (a : Addr) (ccd : Value) (cl : List (Str × Addr)) (outer : List Env) (A₀ : Around) (base h₀ : Heap) (L : Addr) (m : Str → Option Value) (M P : Led) (s : Shared) (vs : List Value) (d : D)
    (Q E : Value → Shared → Prop),
    Below A₀ base outer h₀ → Fr h₀ L s.heap m → (Mine.hd.heap_1 w.params).In h₀ → News h₀ L s.heap (M ++ P) → Top topProg LO2 mean mg mb h₀ → cs.kind = .function → Pre P vs d → dp + dep d < recursionLimit → un + 8 * dep d < cLine →
    (∀ r P' h' tk', Fr h₀ L h' m → News h₀ L h' (M ++ P') → (∀ p ∈ P, p ∈ P') → (∀ p ∈ P', p ∈ P ∨ ∀ q ∈ M ++ P, q.1 ≠ p.1) → Post P' r d → Q r { s with heap := h', toks := tk' }) →
    wpAny (model PySem.Challenge.rw_np0230_01.row.prog w) (ktrTop dp un gd cn cs L a ccd cl outer) (call (.ref f) vs) Q E s

noncomputable def lkm : List (Str × Value) → Str → Option Value
  | [] => fun _ => none
  | (a, x) :: l => fun y => if y = a then some x else lkm l y
theorem lkm_eq (l : List (Str × Value)) : (fun y => List.lookup y l) = lkm l := by
  induction l with
  | nil => rfl
  | cons p l ih =>
    obtain ⟨a, x⟩ := p
    funext y
    have := congrFun ih y
    by_cases h1 : y = a
    · simp [List.lookup_cons, lkm, h1]
    · simp only [List.lookup_cons, lkm, beq_false_of_ne h1, if_neg h1, this]
theorem fr_lk {g h : Heap} {L : Addr} (l : List (Str × Value)) (F : Fr g L h fun y => List.lookup y l) : Fr g L h (lkm l) := by
  rw [← lkm_eq]; exact F
theorem set_twice (m : Str → Option Value) (x : Str) (u v : Value) : (fun y => if y = x then some u else if y = x then some v else m y) = fun y => if y = x then some u else m y := by
  funext y; by_cases h : y = x <;> simp [h]
section
variable {prog : Program} {w : World} {A : Around} {E : Value → Shared → Prop} {s : Shared} {h₀ : Heap} {L : Addr}
theorem sub_table {P nw : Led} {tv : Value} {T : Tb} {x : Nm} {tk : Tok} {value slice : PySem.Expr} {Q : Value → Shared → Prop} (hT : TbIn prog w P tv T) (N : News h₀ L s.heap nw) (hs : ∀ p ∈ P, p ∈ nw)
    (hsl : ∀ a, subscripted slice false (.ref a) (.str x.str tk) = operate [.ref a, .str x.str tk] (getItem (.ref a) (.str x.str tk)))
    (h : ∀ a t u n, (a, tupO [.str (T.get x).wy.str t, .int (T.get x).lv u] n) ∈ P → Q (.ref a) { s with toks := s.toks + 1 }) : wpAny (model prog w) A (subscriptTail value slice tv (.str x.str tk)) Q E s := by
  obtain ⟨d, o, kvs, rfl, hm, hne, ho, hk⟩ := hT
  obtain ⟨u, hu, hf⟩ := hk x
  have hd : s.heap.DictOf (strKind prog w) d kvs := Heap.dictOf_iff.mpr ⟨o, (N _ (hs _ hm)).1, ho⟩
  exact tail_any hd.typeIs slot_dict_getitem.lookup (wpAny_getItem_of (strKind_is prog w _ tk) hd.mapOf hu (by obtain ⟨a, t, u, n, rfl, hf⟩ := hf; exact h a t u n hf)) (hsl d)
end

theorem nsub {h₀ h : Heap} {L : Addr} {a b : Led} (N : News h₀ L h a) (k : ∀ p ∈ b, p ∈ a) : News h₀ L h b := fun p hp => N p (k p hp)
inductive NmsAre : List Value → List Nm → Prop
  | nil : NmsAre [] []
  | cons {x : Nm} {t : Tok} {vs : List Value} {xs : List Nm} : NmsAre vs xs → NmsAre (.str x.str t :: vs) (x :: xs)
theorem NmsAre.snoc {x : Nm} {t : Tok} {vs : List Value} {xs : List Nm} (h : NmsAre vs xs) : NmsAre (vs ++ [.str x.str t]) (xs ++ [x]) := by
  induction h with
  | nil => exact .cons .nil
  | cons _ ih => exact .cons ih
theorem NmsAre.length {vs : List Value} {xs : List Nm} (h : NmsAre vs xs) : vs.length = xs.length := by
  induction h with
  | nil => rfl
  | cons _ ih => simp [ih]
theorem NmsAre.at {vs : List Value} {xs : List Nm} (h : NmsAre vs xs) : ∀ {i : Nat} {v : Value}, vs[i]? = some v → ∃ x t, v = .str x.str t ∧ xs[i]? = some x := by
  induction h with
  | nil => intro i v e; simp at e
  | @cons x t vs xs _ ih =>
    intro i v e
    cases i with
    | zero => simp at e; exact ⟨x, t, e.symm, rfl⟩
    | succ i => simpa using ih (by simpa using e)
noncomputable def edges : Tr → Bool → List Nm
  | .leaf _, _ => []
  | .neg _, false => []
  | .neg t, true => .mi :: edges t true
  | .bin x l _, false => x :: edges l false
  | .bin x _ r, true => x :: edges r true
theorem Spec.use {w : World} {f : Addr} {D : Type} {dep : D → Nat} {Pre : Led → List Value → D → Prop} {Post : Led → Value → D → Prop} (S : Spec w f dep Pre Post) (M P : Led) (d : D)
    {mean : ExcName → Option Value} {mg mb : Str → Option Value} {dp un : Nat} {gd : Option (List Code)} {cn : Str} {cs : Scope} {a : Addr} {ccd : Value} {cl : List (Str × Addr)} {outer : List Env} {A₀ : Around} {base h₀ : Heap} {L : Addr} {m : Str → Option Value} {nw : Led} {s : Shared} {vs : List Value}
    {Q E : Value → Shared → Prop}
    (B : Below A₀ base outer h₀) (F : Fr h₀ L s.heap m) (X : (Mine.hd.heap_1 w.params).In h₀) (N : News h₀ L s.heap nw) (hs : ∀ p ∈ M ++ P, p ∈ nw) (TT : Top topProg LO2 mean mg mb h₀) (hk : cs.kind = .function) (hp : Pre P vs d) (hd : dp + dep d < recursionLimit) (hu : un + 8 * dep d < cLine)
    (ret : ∀ r P' h' tk', Fr h₀ L h' m → News h₀ L h' (M ++ P') → (∀ p ∈ P, p ∈ P') → (∀ p ∈ P', p ∈ P ∨ ∀ q ∈ M ++ P, q.1 ≠ p.1) → Post P' r d → Q r { s with heap := h', toks := tk' }) :
    wpAny (model PySem.Challenge.rw_np0230_01.row.prog w) (ktrTop dp un gd cn cs L a ccd cl outer) (call (.ref f) vs) Q E s :=
  S mean mg mb dp un gd cn cs a ccd cl outer A₀ base h₀ L m M P s vs d Q E B F X (nsub N hs) TT hk hp hd hu ret
theorem set_same (m : Str → Option Value) (x : Str) (v : Value) (h : m x = some v) : m = fun y => if y = x then some v else m y := by
  funext y; by_cases e : y = x
  · rw [if_pos e, e, h]
  · rw [if_neg e]
theorem set_same2 (m : Str → Option Value) (x x' : Str) (v v' : Value) (h : m x = some v) (h' : m x' = some v') : m = fun y => if y = x then some v else if y = x' then some v' else m y := by
  funext y; by_cases e : y = x
  · rw [if_pos e, e, h]
  · rw [if_neg e]; by_cases e' : y = x'
    · rw [if_pos e', e', h']
    · rw [if_neg e']
theorem nm_inj : ∀ x y : Nm, x.str = y.str → x = y := by intro x y; cases x <;> cases y <;> first | (intro _; rfl) | (intro h; exact absurd h (by decide +kernel))
theorem wy_inj : ∀ x y : Wy, x.str = y.str → x = y := by intro x y; cases x <;> cases y <;> first | (intro _; rfl) | (intro h; exact absurd h (by decide +kernel))
theorem edges_len : ∀ (t : Tr) (b : Bool), (edges t b).length ≤ t.size
  | .leaf _, _ => Nat.le_refl _
  | .neg _, false => Nat.zero_le _
  | .neg t, true => by have := edges_len t true; simp only [edges, List.length_cons, Tr.size]; omega
  | .bin _ l _, false => by have := edges_len l false; simp only [edges, List.length_cons, Tr.size]; omega
  | .bin _ _ r, true => by have := edges_len r true; simp only [edges, List.length_cons, Tr.size]; omega
theorem size_ok {ws : List Value} {n : Nat} (h : ws.length ≤ n) (hn : n ≤ 1000) : ws.toArray.size ≤ sizeLine := by rw [sizeLine_eq, List.size_toArray]; omega
theorem subM {M P nw : Led} (h1 : ∀ p ∈ M, p ∈ nw) (h2 : ∀ p ∈ P, p ∈ nw) : ∀ p ∈ M ++ P, p ∈ nw := fun p hp => (List.mem_append.mp hp).elim (h1 p) (h2 p)
noncomputable def Fresh (A B C : Led) : Prop := ∀ p ∈ C, p ∈ B ∨ ∀ q ∈ A, q.1 ≠ p.1
theorem Fresh.refl {A B : Led} : Fresh A B B := fun _ h => .inl h
theorem Fresh.trans {A A' B C D : Led} (h : Fresh A B C) (k : Fresh A' C D) (hs : ∀ p ∈ A, p ∈ A') : Fresh A B D := fun p hp => (k p hp).elim (fun q => h p q) fun q => .inr fun r hr => q r (hs r hr)
theorem Fresh.cons {A B C : Led} {a : Addr} {o : Obj} (h : Fresh A B C) (hl : ∀ q ∈ A, q.1 < a) : Fresh A B ((a, o) :: C) := by
  intro p hp; rcases List.mem_cons.mp hp with rfl | hp
  · exact .inr fun q hq => Nat.ne_of_lt (hl q hq)
  · exact h p hp
theorem ownoff_fresh {A own Mx Mx' Px Px' : Led} (ho : OwnOff own ((Mx ++ Px).map (·.1))) (hm : Mx'.map (·.1) = Mx.map (·.1)) (hf : Fresh A Px Px') (hown : ∀ p ∈ own, p ∈ A) : OwnOff own ((Mx' ++ Px').map (·.1)) := by
  intro p hp b hb
  rw [List.map_append, List.mem_append] at hb
  rcases hb with hb | hb
  · exact ho p hp b (by rw [List.map_append, List.mem_append, ← hm]; exact .inl hb)
  · obtain ⟨q, hq, rfl⟩ := List.mem_map.mp hb
    rcases hf q hq with h | h
    · exact ho p hp _ (by rw [List.map_append, List.mem_append]; exact .inr (List.mem_map_of_mem h))
    · exact h p (hown p hp)
theorem offs_fresh {A M Px Px' : Led} {f : Addr} {o : Obj} (h : ∀ p ∈ M ++ Px, p.1 ≠ f) (hf : Fresh A Px Px') (hfA : (f, o) ∈ A) : ∀ p ∈ M ++ Px', p.1 ≠ f := by
  intro p hp
  rcases List.mem_append.mp hp with hp | hp
  · exact h p (List.mem_append_left _ hp)
  · rcases hf p hp with q | q
    · exact h p (List.mem_append_right _ q)
    · exact Ne.symm (q _ hfA)
theorem mvN (N : Led) {M P : Led} : ∀ p ∈ M ++ (N ++ P), p ∈ N ++ (M ++ P) := by
  intro p hp
  simp only [List.mem_append] at hp ⊢
  rcases hp with h | h | h
  · exact .inr (.inl h)
  · exact .inl h
  · exact .inr (.inr h)
theorem mv1 {x : Addr × Obj} {M P : Led} : ∀ p ∈ M ++ (x :: P), p ∈ x :: (M ++ P) := mvN [x]
theorem mv2 {x y : Addr × Obj} {M P : Led} : ∀ p ∈ M ++ (x :: y :: P), p ∈ x :: y :: (M ++ P) := mvN [x, y]
theorem fr1 {a : Addr} {o : Obj} {M P : Led} (h : ∀ p ∈ M ++ P, p.1 < a) : ∀ p ∈ (a, o) :: P, p ∈ P ∨ ∀ q ∈ M ++ P, q.1 ≠ p.1 := by
  intro p hp; rcases List.mem_cons.mp hp with rfl | hp
  · exact .inr fun q hq => Nat.ne_of_lt (h q hq)
  · exact .inl hp
theorem sub1 {x : Addr × Obj} {P : Led} : ∀ p ∈ P, p ∈ x :: P := fun _ h => .tail _ h
theorem fr0 {M P : Led} : ∀ p ∈ P, p ∈ P ∨ ∀ q ∈ M ++ P, q.1 ≠ p.1 := fun _ h => .inl h
theorem sub0 {P : Led} : ∀ p ∈ P, p ∈ P := fun _ h => h
noncomputable def letV (T : Tb) (x : Nm) (side : Bool) (o : Nm) : Bool :=
  !decide ((T.get o).lv < (T.get x).lv) && !(decide ((T.get o).lv = (T.get x).lv) && !(decide ((T.get x).wy = (T.get o).wy) && decide ((T.get o).wy = if side then Wy.r else Wy.l)))
noncomputable def besideV (T : Tb) (x : Nm) (t : Tr) (side : Bool) : Bool := (edges t (!side)).all (letV T x side)
theorem wy_beq (a b : Wy) : (a.str == b.str) = decide (a = b) := by cases a <;> cases b <;> decide +kernel
theorem nm_beq (a b : Nm) : (a.str == b.str) = decide (a = b) := by cases a <;> cases b <;> decide +kernel
theorem bs_no {T : Tb} {x o : Nm} {t : Tr} {b : Bool} {i : Nat} (h : (edges t (!b))[i]? = some o) (hl : letV T x b o = false) : besideV T x t b = false := by
  unfold besideV
  exact List.all_eq_false.mpr ⟨o, List.mem_of_getElem? h, by rw [hl]; exact Bool.false_ne_true⟩
theorem bs_step {T : Tb} {x o : Nm} {t : Tr} {b : Bool} {i : Nat} (h : (edges t (!b))[i]? = some o) (ha : ((edges t (!b)).take i).all (letV T x b) = true) (hl : letV T x b o = true) : ((edges t (!b)).take (i + 1)).all (letV T x b) = true := by
  rw [List.take_add_one, h, List.all_append, ha]
  simp [hl]
theorem bs_all {T : Tb} {x : Nm} {t : Tr} {b : Bool} {n : Nat} (hn : n = (edges t (!b)).length) (ha : ((edges t (!b)).take n).all (letV T x b) = true) : besideV T x t b = true := by
  rw [hn, List.take_length] at ha; exact ha
theorem letV_lt {T : Tb} {x o : Nm} {b : Bool} (h : ((T.get o).lv : Int) < (T.get x).lv) : letV T x b o = false := by
  have : (T.get o).lv < (T.get x).lv := by omega
  simp [letV, this]
theorem letV_ne {T : Tb} {x o : Nm} {b : Bool} (h : ¬ ((T.get o).lv : Int) < (T.get x).lv) (h2 : ((T.get o).lv : Int) ≠ (T.get x).lv) : letV T x b o = true := by
  have h3 : ¬ (T.get o).lv < (T.get x).lv := by omega
  have h4 : ¬ (T.get o).lv = (T.get x).lv := by omega
  simp only [letV, decide_eq_false h3, decide_eq_false h4]; rfl
theorem letV_w1 {T : Tb} {x o : Nm} {b : Bool} (h2 : ((T.get o).lv : Int) = (T.get x).lv) (h3 : ((T.get x).wy.str == (T.get o).wy.str) = false) : letV T x b o = false := by
  rw [wy_beq] at h3
  have h4 : (T.get o).lv = (T.get x).lv := by omega
  simp [letV, h4, h3]
theorem letV_w2 {T : Tb} {x o : Nm} {b c : Bool} {y : Str} (h1 : ¬ ((T.get o).lv : Int) < (T.get x).lv) (h2 : ((T.get o).lv : Int) = (T.get x).lv) (h3 : ((T.get x).wy.str == (T.get o).wy.str) = true) (hy : y = (if b then Wy.r else Wy.l).str) (h5 : ((T.get o).wy.str == y) = c) : letV T x b o = c := by
  subst hy
  rw [wy_beq] at h3 h5
  have h4 : (T.get o).lv = (T.get x).lv := by omega
  simp [letV, h4, h3, h5]
noncomputable def signedV (T : Tb) (x : Nm) : Tr → Bool
  | .leaf _ => true
  | .neg _ => decide ((T.get x).lv < 6)
  | .bin _ l _ => signedV T x l

noncomputable def TurnP (h₀ : Heap) (L : Addr) (x : Str) (stored : List Str) (m₀ : Str → Option Value) (J : (Str → Option Value) → Led → Led → Prop) (own : Led) (s₁ : Shared) (Q : Flow → Shared → Prop) (f : Flow) (s₂ : Shared) : Prop :=
  match f with
  | .ret v => Q (.ret v) s₂
  | .brk => Q .next s₂
  | _ => ∃ h' tk m' Mx Px, s₂ = { s₁ with heap := h', toks := tk } ∧ Fr h₀ L h' m' ∧ News h₀ L h' ((own ++ Mx) ++ Px) ∧ OwnOff own ((Mx ++ Px).map (·.1)) ∧ (∀ z, z ≠ x → stored.contains z = false → m' z = m₀ z) ∧ J m' Mx Px
section
variable {prog : Program} {w : World} {A : Around} {E : Value → Shared → Prop} {s : Shared} {env : Env} {h₀ : Heap} {x : Str} {body : List Stmt} {Q : Flow → Shared → Prop}
theorem over_eq {stored : List Str} {x : Str} {m m₀ : Str → Option Value} (v : Option Value) (h : ∀ z, z ≠ x → stored.contains z = false → m z = m₀ z) : (fun y => if y = x then v else m y) = fun y => if y = x then v else if stored.contains y then m y else m₀ y := by
  funext y
  by_cases h1 : y = x
  · simp [h1]
  · simp only [if_neg h1]
    cases h2 : stored.contains y with
    | true => simp
    | false => simp only [Bool.false_eq_true, if_false]; exact h y h1 h2
theorem over_eq' {stored : List Str} {x : Str} {m m₀ : Str → Option Value} (h : ∀ z, z ≠ x → stored.contains z = false → m z = m₀ z) : m = fun y => if y = x then m y else if stored.contains y then m y else m₀ y := by
  funext y
  by_cases h1 : y = x
  · simp [h1]
  · simp only [if_neg h1]
    cases h2 : stored.contains y with
    | true => simp
    | false => simp only [Bool.false_eq_true, if_false]; exact h y h1 h2
theorem turn_out {L : Addr} {x : Str} {stored : List Str} {m₀ : Str → Option Value} {J : (Str → Option Value) → Led → Led → Prop} {J' : (Str → Option Value) → Led → Prop} {own : Led} {s₁ : Shared} {Q : Flow → Shared → Prop}
    (hJ : ∀ m Mx Px, (∀ z, z ≠ x → stored.contains z = false → m z = m₀ z) → J m Mx Px → J' m (Mx ++ Px)) : ∀ f s₂, TurnP h₀ L x stored m₀ J own s₁ Q f s₂ → InvPostG h₀ L J' own s₁ Q f s₂ := by
  have key : ∀ (s₂ : Shared), (∃ h' tk m' Mx Px, s₂ = { s₁ with heap := h', toks := tk } ∧ Fr h₀ L h' m' ∧ News h₀ L h' ((own ++ Mx) ++ Px) ∧ OwnOff own ((Mx ++ Px).map (·.1)) ∧ (∀ z, z ≠ x → stored.contains z = false → m' z = m₀ z) ∧ J m' Mx Px) → InvEndG h₀ L J' own s₁ s₂ := by
    rintro s₂ ⟨h', tk', m', Mx', Px', rfl, F', N', ho', hm', hJ'⟩
    refine ⟨h', tk', m', _, Mx' ++ Px', rfl, F', N', ?_, ?_, ho', hJ _ _ _ hm' hJ'⟩
    · intro p hp
      simp only [List.mem_append] at hp ⊢
      rcases hp with h | h
      · exact .inl (.inr h)
      · exact .inr h
    · intro p hp
      simp only [List.mem_append]
      exact .inl (.inl hp)
  intro f s₂ hp
  cases f with
  | ret v => exact hp
  | brk => exact hp
  | next => exact key s₂ hp
  | cont => exact key s₂ hp
theorem led3 {own Mx Px : Led} : ∀ p ∈ (own ++ Mx) ++ Px, p ∈ (Mx ++ Px) ++ own := by
  intro p hp
  simp only [List.mem_append] at hp ⊢
  rcases hp with (h | h) | h
  · exact .inr h
  · exact .inl (.inl h)
  · exact .inl (.inr h)
theorem forG {l : Addr} {vs : List Value} {nn : Nat} {m₀ : Str → Option Value} {M P : Led} (stored : List Str) (J : Nat → (Str → Option Value) → Led → Led → Prop)
    (hh : A.handled = none) (hJl : ∀ i u Mx Px, J i u Mx Px → (l, listOf vs.toArray nn) ∈ Px) (F : Fr h₀ env.locals s.heap m₀) (N : News h₀ env.locals s.heap (M ++ P)) (hj : J 0 m₀ M P)
    (turn : ∀ i v u Mx Px h tk own, vs[i]? = some v → OwnOff own ((Mx ++ Px).map (·.1)) → J i u Mx Px → Fr h₀ env.locals h (fun y => if y = x then some v else if stored.contains y then u y else m₀ y) → News h₀ env.locals h ((own ++ Mx) ++ Px) →
      wpAny (model prog w) A (execs body env) (TurnP h₀ env.locals x stored m₀ (J (i + 1)) own { s with heap := h, toks := tk } Q) E { s with heap := h, toks := tk })
    (done : ∀ u Mx Px h tk, J vs.length u Mx Px → Fr h₀ env.locals h (fun y => if y = x then u y else if stored.contains y then u y else m₀ y) → News h₀ env.locals h (Mx ++ Px) → Q .next { s with heap := h, toks := tk }) :
    wpAny (model prog w) A (pyIter (.ref l)) (fun it s₂ => LoopAtV prog w A h₀ env x body Q E it s₂) E s := by
  refine kdl_iter (news := M ++ P) (fun i m nx => ∃ Mx Px, nx = Mx ++ Px ∧ (∀ z, z ≠ x → stored.contains z = false → m z = m₀ z) ∧ J i m Mx Px) hh (List.mem_append_right _ (hJl _ _ _ _ hj)) F N ⟨M, P, rfl, fun _ _ _ => rfl, hj⟩ ?_ ?_
  · rintro i v m₁ nx h tk own hv ho hl' ⟨Mx, Px, rfl, hm, hJ⟩ F₁ N₁
    refine wpAny_mono (turn i v m₁ Mx Px h tk own hv ho hJ (by rw [← over_eq _ hm]; exact F₁) (fun p hp => N₁ p (led3 p hp))) (turn_out fun m Mx Px hm hJ => ⟨List.mem_append_right _ (hJl _ _ _ _ hJ), Mx, Px, rfl, hm, hJ⟩) (fun _ _ e => e)
  · rintro m₁ nx h tk ⟨Mx, Px, rfl, hm, hJ⟩ F₁ N₁
    exact done m₁ Mx Px h tk hJ (by rw [← over_eq' hm]; exact F₁) N₁
theorem forR {r : Addr} {a₀ b₀ : Int} {t₀ u₀ v₀ : Tok} {n : Nat} {m₀ : Str → Option Value} {M P : Led} (stored : List Str) (J : Nat → (Str → Option Value) → Led → Led → Prop)
    (hh : A.handled = none) (hr : IsRange s.heap r a₀ b₀ 1 t₀ u₀ v₀) (hsmall : Builtin.Range.small a₀ b₀ 1 = true) (hsz : Builtin.Range.rangeSize a₀ b₀ 1 = (n : Int)) (F : Fr h₀ env.locals s.heap m₀) (N : News h₀ env.locals s.heap (M ++ P)) (hj : J 0 m₀ M P)
    (turn : ∀ i t u Mx Px h tk own, i < n → OwnOff own ((Mx ++ Px).map (·.1)) → J i u Mx Px → Fr h₀ env.locals h (fun y => if y = x then some (.int (a₀ + (i : Nat)) t) else if stored.contains y then u y else m₀ y) → News h₀ env.locals h ((own ++ Mx) ++ Px) →
      wpAny (model prog w) A (execs body env) (TurnP h₀ env.locals x stored m₀ (J (i + 1)) own { s with heap := h, toks := tk } Q) E { s with heap := h, toks := tk })
    (done : ∀ u Mx Px h tk, J n u Mx Px → Fr h₀ env.locals h (fun y => if y = x then u y else if stored.contains y then u y else m₀ y) → News h₀ env.locals h (Mx ++ Px) → Q .next { s with heap := h, toks := tk }) :
    wpAny (model prog w) A (pyIter (.ref r)) (fun it s₂ => LoopAtV prog w A h₀ env x body Q E it s₂) E s := by
  refine wpAny_pyIter_range hr hsmall ?_
  have W : Walks prog w A s.heap.objs.size [s.heap.objs.size] [s.heap.objs.size] n (fun i v => i < n ∧ ∃ t, v = .int (a₀ + i * 1) t)
      (fun i h => IsRangeIter h s.heap.objs.size (a₀ + (i : Nat) * 1) ((n : Int) - (i : Nat)) 1) := (Walks.range hh _ a₀ 1 n).bound
  refine kdr_loop (fun i m nx => ∃ Mx Px, nx = Mx ++ Px ∧ (∀ z, z ≠ x → stored.contains z = false → m z = m₀ z) ∧ J i m Mx Px) W (fun _ h => h) (fun _ h => h) ?_ ?_ ?_ ?_ (by show IsRangeIter _ _ _ _ _; rw [hsz]; simpa using Heap.get?_push_size _ rfl) (F.push _) (fun p hp => ⟨Heap.get?_push_of_some _ (N p hp).1, (N p hp).2⟩) ⟨M, P, rfl, fun _ _ _ => rfl, hj⟩ ?_ ?_
  · intro i h hi b hb
    rw [List.mem_singleton.mp hb]
    exact ⟨_, hi⟩
  · intro hm
    exact absurd F.ns.lt ((List.mem_singleton.mp hm) ▸ Nat.lt_irrefl _)
  · intro b hb
    rw [List.mem_singleton.mp hb]
    exact next_is_new F
  · intro p hp hI
    exact absurd (Heap.lt_size (N p hp).1) ((List.mem_singleton.mp hI) ▸ Nat.lt_irrefl _)
  · rintro i v m₁ nx h tk own hi ⟨_, t, rfl⟩ ho ⟨Mx, Px, rfl, hm, hJ⟩ F₁ N₁
    rw [show a₀ + (i : Int) * 1 = a₀ + (i : Int) by omega] at F₁
    exact wpAny_mono (turn i t m₁ Mx Px h tk own hi ho hJ (by rw [← over_eq _ hm]; exact F₁) (fun p hp => N₁ p (led3 p hp))) (turn_out fun m Mx Px hm hJ => ⟨Mx, Px, rfl, hm, hJ⟩) (fun _ _ e => e)
  · rintro m₁ nx h tk ⟨Mx, Px, rfl, hm, hJ⟩ F₁ N₁
    exact done m₁ Mx Px h tk hJ (by rw [← over_eq' hm]; exact F₁) N₁
end
abbrev RP : Program := PySem.Challenge.rw_np0230_01.row.prog
noncomputable def SignedS (w : World) : Prop := Spec w 503 (D := Tb × Nm × Tr) (fun _ => 5)
    (fun P vs d => ∃ tv tk v, vs = [tv, .str d.2.1.str tk, v] ∧ TbIn PySem.Challenge.rw_np0230_01.row.prog w P tv d.1 ∧ TrIn P v d.2.2)
    (fun _ r d => r = .bool (signedV d.1 d.2.1 d.2.2))
noncomputable def EdgesS (w : World) : Prop := Spec w 475 (D := Tr × Bool) (fun _ => 5)
    (fun P vs d => ∃ v tk, vs = [v, .int (if d.2 then 1 else 0) tk] ∧ TrIn P v d.1 ∧ d.1.size ≤ 100)
    (fun P r d => ∃ a vs n, r = .ref a ∧ (a, listOf vs.toArray n) ∈ P ∧ NmsAre vs (edges d.1 d.2))
noncomputable def BesideS (w : World) : Prop := Spec w 482 (D := Tb × Nm × Tr × Bool) (fun _ => 8)
    (fun P vs d => ∃ tv v tkS tkN, vs = [tv, .str d.2.1.str tkN, v, .int (if d.2.2.2 then 1 else 0) tkS] ∧ TbIn PySem.Challenge.rw_np0230_01.row.prog w P tv d.1 ∧ TrIn P v d.2.2.1 ∧ d.2.2.1.size ≤ 100)
    (fun _ r d => r = .bool (besideV d.1 d.2.1 d.2.2.1 d.2.2.2))
noncomputable def minusV (T : Tb) : Tr → Bool
  | .neg _ => false
  | t => besideV T .mi t true
noncomputable def MinusS (w : World) : Prop := Spec w 496 (D := Tb × Tr) (fun _ => 12)
    (fun P vs d => ∃ tv v, vs = [tv, v] ∧ TbIn PySem.Challenge.rw_np0230_01.row.prog w P tv d.1 ∧ TrIn P v d.2 ∧ d.2.size ≤ 100)
    (fun _ r d => r = .bool (minusV d.1 d.2))

-- ## rows and their trees
inductive It
  | num (i : Nat)
  | sym (x : Nm)
  deriving DecidableEq
noncomputable def vldA : List It → Bool → Bool → Bool
  | [] => fun d _ => !d
  | i :: r => match i with
    | .num _ => fun d _ => d && vldA r false false
    | .sym x => fun d m => match d with
      | true => !m && (decide (x = .mi) && vldA r true true)
      | false => decide (x ≠ .mi) && vldA r true false
noncomputable def vld (l : List It) : Bool := vldA l true false
inductive ItIs : Value → It → Prop
  | num (i : Nat) (t : Tok) : ItIs (.int i t) (.num i)
  | sym (x : Nm) (t : Tok) : ItIs (.str x.str t) (.sym x)
inductive ItsAre : List Value → List It → Prop
  | nil : ItsAre [] []
  | cons {v : Value} {i : It} {vs : List Value} {is : List It} : ItIs v i → ItsAre vs is → ItsAre (v :: vs) (i :: is)
theorem ItsAre.length {vs : List Value} {is : List It} (h : ItsAre vs is) : vs.length = is.length := by
  induction h with
  | nil => rfl
  | cons _ _ ih => simp [ih]
theorem ItsAre.drop {vs : List Value} {is : List It} (h : ItsAre vs is) : ∀ k : Nat, ItsAre (vs.drop k) (is.drop k) := by
  induction h with
  | nil => intro k; simp; exact .nil
  | cons a b ih =>
    intro k
    cases k with
    | zero => exact .cons a b
    | succ k => simpa using ih k
theorem ItsAre.take {vs : List Value} {is : List It} (h : ItsAre vs is) : ∀ k : Nat, ItsAre (vs.take k) (is.take k) := by
  induction h with
  | nil => intro k; simp; exact .nil
  | cons a b ih =>
    intro k
    cases k with
    | zero => exact .nil
    | succ k => simpa using .cons a (ih k)
theorem ItsAre.at {vs : List Value} {is : List It} (h : ItsAre vs is) : ∀ {k : Nat} {i : It}, is[k]? = some i → ∃ v, vs[k]? = some v ∧ ItIs v i := by
  induction h with
  | nil => intro k i e; simp at e
  | cons a _ ih =>
    intro k i e
    cases k with
    | zero => simp at e; exact ⟨_, rfl, e ▸ a⟩
    | succ k => simpa using ih (by simpa using e)
noncomputable def RowIn (P : Led) (v : Value) (l : List It) : Prop := ∃ a vs n, v = .ref a ∧ (a, listOf vs.toArray n) ∈ P ∧ ItsAre vs l
inductive TrsAre (P : Led) : List Value → List Tr → Prop
  | nil : TrsAre P [] []
  | cons {v : Value} {t : Tr} {vs : List Value} {ts : List Tr} : TrIn P v t → TrsAre P vs ts → TrsAre P (v :: vs) (t :: ts)
theorem TrsAre.length {P : Led} {vs : List Value} {ts : List Tr} (h : TrsAre P vs ts) : vs.length = ts.length := by
  induction h with
  | nil => rfl
  | cons _ _ ih => simp [ih]
theorem TrsAre.mono {P P' : Led} {vs : List Value} {ts : List Tr} (x : TrsAre P vs ts) (h : ∀ p ∈ P, p ∈ P') : TrsAre P' vs ts := by
  induction x with
  | nil => exact .nil
  | cons a _ ih => exact .cons (a.mono h) ih
theorem TrsAre.snoc {P : Led} {vs : List Value} {ts : List Tr} {v : Value} {t : Tr} (h : TrsAre P vs ts) (k : TrIn P v t) : TrsAre P (vs ++ [v]) (ts ++ [t]) := by
  induction h with
  | nil => exact .cons k .nil
  | cons a _ ih => exact .cons a ih
theorem TrsAre.at {P : Led} {vs : List Value} {ts : List Tr} (h : TrsAre P vs ts) : ∀ {i : Nat} {v : Value}, vs[i]? = some v → ∃ t, ts[i]? = some t ∧ TrIn P v t := by
  induction h with
  | nil => intro i v e; simp at e
  | cons a _ ih =>
    intro i v e
    cases i with
    | zero => simp at e; exact ⟨_, rfl, e ▸ a⟩
    | succ i => simpa using ih (by simpa using e)
noncomputable def TrsIn (P : Led) (v : Value) (ts : List Tr) : Prop := ∃ a vs n, v = .ref a ∧ (a, listOf vs.toArray n) ∈ P ∧ TrsAre P vs ts

noncomputable def okBin (T : Tb) (x : Nm) (l r : Tr) : Bool := besideV T x l false && besideV T x r true && signedV T x r
noncomputable def inner (T : Tb) (x : Nm) (l : Tr) (rs : List Tr) : List Tr := (rs.filter fun r => okBin T x l r).map (.bin x l)
noncomputable def atK (T : Tb) (f : List It → List Tr) (row : List It) (k : Nat) : List Tr := match (row[k + 1]? : Option It) with
  | some (It.sym x) => if x = .mi then [] else (f (row.take (k + 1))).flatMap fun a => inner T x a (f (row.drop (k + 2)))
  | _ => []
noncomputable def treesN (T : Tb) : Nat → List It → List Tr
  | 0, _ => []
  | n + 1, l => match l with
    | [] => []
    | [.num i] => [.leaf i]
    | [.sym _] => []
    | i :: j :: rest =>
      (if i = .sym .mi then ((treesN T n (j :: rest)).filter (minusV T)).map .neg else []) ++
      (List.range (rest.length + 1)).flatMap (atK T (treesN T n) (i :: j :: rest))
noncomputable def TreesS (w : World) (n : Nat) : Prop := Spec w 489 (D := Tb × List It) (fun d => 14 + d.2.length)
    (fun P vs d => ∃ tv rv, vs = [tv, rv] ∧ TbIn PySem.Challenge.rw_np0230_01.row.prog w P tv d.1 ∧ RowIn P rv d.2 ∧ vld d.2 = true ∧ d.2.length ≤ n ∧ n ≤ 11)
    (fun P r d => TrsIn P r (treesN d.1 n d.2))

theorem pick_from {vs : List Value} {x : Int} (h : 0 ≤ x) : (slicePick vs.toArray (some x) none none).toList = vs.drop x.toNat := by
  have e : sliceBounds (some x) none none vs.toArray.size = (((min x.toNat vs.toArray.size : Nat) : Int), ((vs.toArray.size : Nat) : Int), 1) := by
    obtain ⟨k, rfl⟩ := Int.eq_ofNat_of_zero_le h
    simp only [sliceBounds, Option.getD_none, show (1 : Int) > 0 by decide, if_true, if_neg (Int.not_lt.mpr h)]
    congr 1
    exact (congrArg (max 0) (Lean.Omega.Int.ofNat_min _ _).symm).trans (Int.max_eq_right (Int.natCast_nonneg _))
  rw [kmk_pick_nat _ e]
  show ((vs.drop (min x.toNat vs.toArray.size)).take (vs.toArray.size - min x.toNat vs.toArray.size)) = _
  rw [List.size_toArray, kmk_drop_min, List.take_of_length_le]
  rw [List.length_drop]; exact Nat.sub_le_sub_left (Nat.min_le_left _ _) _
theorem pick_to {vs : List Value} {y : Int} (h : 0 ≤ y) : (slicePick vs.toArray none (some y) none).toList = vs.take y.toNat := by
  have e : sliceBounds none (some y) none vs.toArray.size = (((0 : Nat) : Int), ((min y.toNat vs.toArray.size : Nat) : Int), 1) := by
    obtain ⟨k, rfl⟩ := Int.eq_ofNat_of_zero_le h
    simp only [sliceBounds, Option.getD_none, show (1 : Int) > 0 by decide, if_true, if_neg (Int.not_lt.mpr h)]
    congr 1
    congr 1
    exact (congrArg (max 0) (Lean.Omega.Int.ofNat_min _ _).symm).trans (Int.max_eq_right (Int.natCast_nonneg _))
  rw [kmk_pick_nat _ e]
  show ((vs.drop 0).take (min y.toNat vs.toArray.size - 0)) = _
  rw [List.drop_zero, Nat.sub_zero, List.size_toArray, kmk_take_min]

section
variable {prog : Program} {w : World} {A : Around} {E : Value → Shared → Prop} {s : Shared}
theorem len_listL {l : Addr} {ws : List Value} {n : Nat} {Q : Value → Shared → Prop} (hl : s.heap.IsList l ws.toArray) (hn : ws.length = n) (hfit : n ≤ 100000)
    (h : Q (.int (n : Int) (s.toks + 1)) { s with toks := s.toks + 1 + 1 }) : wpAny (model prog w) A (call (.builtin "len") [.ref l]) Q E s := by
  subst hn
  refine len_list hl (by rw [List.size_toArray]; omega) ?_
  simpa using h
theorem item_listL {value slice : PySem.Expr} {l : Addr} {ws : List Value} {k : Int} {u : Tok} {x : Value} {Q : Value → Shared → Prop} (hl : s.heap.IsList l ws.toArray)
    (h0 : 0 ≤ k) (hfit : k < 2 ^ 63) (hx : ws[k.toNat]? = some x) (h : Q x s)
    (hs : subscripted slice false (.ref l) (.int k u) = operate [.ref l, .int k u] (getItem (.ref l) (.int k u))) (hg : ∀ r, letTemporaryGo value (.ref l) r = pure ()) :
    wpAny (model prog w) A (subscriptTail value slice (.ref l) (.int k u)) Q E s := item_list hl h0 hfit (by simpa using hx) h hs hg
end

noncomputable def CutP (R : Shared → Prop) (f : Flow) (s : Shared) : Prop := f = .next ∧ R s
theorem cut_at {M : Model} {A : Around} {E : Value → Shared → Prop} {s : Shared} {t : Sem Flow} {Q : Flow → Shared → Prop} (R : Shared → Prop) (h : wpAny M A t (CutP R) E s) (k : ∀ s', R s' → Q .next s') : wpAny M A t Q E s :=
  wpAny_mono h (fun f s' ⟨hf, hr⟩ => by subst hf; exact k s' hr) fun _ _ e => e
theorem xc_one {M : Model} {A : Around} {E : Value → Shared → Prop} {s : Shared} {st : Stmt} {env : Env} {Q : Flow → Shared → Prop} (h : wpAny M A (exec st env) Q E s) : wpAny M A (execs [st] env) Q E s :=
  wpAny_execs_cons (wpAny_mono h (fun f _ k => by cases f <;> first | exact wpAny_execs_nil k | exact k) fun _ _ k => k)
theorem xc_cons {M : Model} {A : Around} {E : Value → Shared → Prop} {s : Shared} {st : Stmt} {rest : List Stmt} {env : Env} {Q : Flow → Shared → Prop}
    (h : ∀ q : Flow → Shared → Prop, (∀ s', wpAny M A (execs rest env) Q E s' → q .next s') → (∀ f s', f ≠ .next → Q f s' → q f s') → wpAny M A (exec st env) q E s) : wpAny M A (execs (st :: rest) env) Q E s :=
  wpAny_execs_cons (h _ (fun _ k => k) (fun f _ n k => by cases f <;> first | exact absurd rfl n | exact k))
theorem next_q {q : Flow → Shared → Prop} {R : Shared → Prop} {s : Shared} (h : ∀ s', R s' → q .next s') (k : R s) : q .next s := h s k
theorem ret_q {q Q : Flow → Shared → Prop} {v : Value} {s : Shared} (h : ∀ f s', f ≠ .next → Q f s' → q f s') (k : Q (.ret v) s) : q (.ret v) s := h _ s (by intro e; cases e) k
theorem brk_q {q Q : Flow → Shared → Prop} {s : Shared} (h : ∀ f s', f ≠ .next → Q f s' → q f s') (k : Q .brk s) : q .brk s := h _ s (by intro e; cases e) k
theorem cont_q {q Q : Flow → Shared → Prop} {s : Shared} (h : ∀ f s', f ≠ .next → Q f s' → q f s') (k : Q .cont s) : q .cont s := h _ s (by intro e; cases e) k
theorem st_gen {M : Model} {A : Around} {E : Value → Shared → Prop} {α : Type} {t : Sem α} {Q : α → Shared → Prop} {h : Heap} {g g' : Array GenState} {d d' : Drawn} {tk : Nat} {o o' : OsState} (hg : g = g') (hd : d = d') (ho : o = o')
    (k : ∀ t', wpAny M A t Q E ⟨h, g', d', t', o'⟩) : wpAny M A t Q E ⟨h, g, d, tk, o⟩ := by subst hg hd ho; exact k tk
theorem ex2 {α0 α1 : Type} {P : α0 → α1 → Prop} (a : α0) (b : α1) (p : P a b) : ∃ a b, P a b := ⟨a, b, p⟩
theorem ex5 {α0 α1 α2 α3 α4 : Type} {P : α0 → α1 → α2 → α3 → α4 → Prop} (a : α0) (b : α1) (c : α2) (d : α3) (e : α4) (p : P a b c d e) : ∃ a b c d e, P a b c d e := ⟨a, b, c, d, e, p⟩
theorem ex7 {α0 α1 α2 α3 α4 α5 α6 : Type} {P : α0 → α1 → α2 → α3 → α4 → α5 → α6 → Prop} (a : α0) (b : α1) (c : α2) (d : α3) (e : α4) (f : α5) (g : α6) (p : P a b c d e f g) : ∃ a b c d e f g, P a b c d e f g := ⟨a, b, c, d, e, f, g, p⟩
theorem ex8 {α0 α1 α2 α3 α4 α5 α6 α7 : Type} {P : α0 → α1 → α2 → α3 → α4 → α5 → α6 → α7 → Prop} (a : α0) (b : α1) (c : α2) (d : α3) (e : α4) (f : α5) (g : α6) (h : α7) (p : P a b c d e f g h) : ∃ a b c d e f g h, P a b c d e f g h := ⟨a, b, c, d, e, f, g, h, p⟩
theorem ex9 {α0 α1 α2 α3 α4 α5 α6 α7 α8 : Type} {P : α0 → α1 → α2 → α3 → α4 → α5 → α6 → α7 → α8 → Prop} (a : α0) (b : α1) (c : α2) (d : α3) (e : α4) (f : α5) (g : α6) (h : α7) (i : α8) (p : P a b c d e f g h i) : ∃ a b c d e f g h i, P a b c d e f g h i := ⟨a, b, c, d, e, f, g, h, i, p⟩
theorem el3 {α0 α1 α2 : Type} {P : α0 → α1 → α2 → Prop} {R : Prop} (zx : ∃ a b c, P a b c) (zk : ∀ a b c, P a b c → R) : R := by obtain ⟨a, b, c, p⟩ := zx; exact zk _ _ _ p
theorem el4 {α0 α1 α2 α3 : Type} {P : α0 → α1 → α2 → α3 → Prop} {R : Prop} (zx : ∃ a b c d, P a b c d) (zk : ∀ a b c d, P a b c d → R) : R := by obtain ⟨a, b, c, d, p⟩ := zx; exact zk _ _ _ _ p
theorem el5 {α0 α1 α2 α3 α4 : Type} {P : α0 → α1 → α2 → α3 → α4 → Prop} {R : Prop} (zx : ∃ a b c d e, P a b c d e) (zk : ∀ a b c d e, P a b c d e → R) : R := by obtain ⟨a, b, c, d, e, p⟩ := zx; exact zk _ _ _ _ _ p
theorem el6 {α0 α1 α2 α3 α4 α5 : Type} {P : α0 → α1 → α2 → α3 → α4 → α5 → Prop} {R : Prop} (zx : ∃ a b c d e f, P a b c d e f) (zk : ∀ a b c d e f, P a b c d e f → R) : R := by obtain ⟨a, b, c, d, e, f, p⟩ := zx; exact zk _ _ _ _ _ _ p
theorem el7 {α0 α1 α2 α3 α4 α5 α6 : Type} {P : α0 → α1 → α2 → α3 → α4 → α5 → α6 → Prop} {R : Prop} (zx : ∃ a b c d e f g, P a b c d e f g) (zk : ∀ a b c d e f g, P a b c d e f g → R) : R := by obtain ⟨a, b, c, d, e, f, g, p⟩ := zx; exact zk _ _ _ _ _ _ _ p
theorem el8 {α0 α1 α2 α3 α4 α5 α6 α7 : Type} {P : α0 → α1 → α2 → α3 → α4 → α5 → α6 → α7 → Prop} {R : Prop} (zx : ∃ a b c d e f g h, P a b c d e f g h) (zk : ∀ a b c d e f g h, P a b c d e f g h → R) : R := by obtain ⟨a, b, c, d, e, f, g, h, p⟩ := zx; exact zk _ _ _ _ _ _ _ _ p
theorem el9 {α0 α1 α2 α3 α4 α5 α6 α7 α8 : Type} {P : α0 → α1 → α2 → α3 → α4 → α5 → α6 → α7 → α8 → Prop} {R : Prop} (zx : ∃ a b c d e f g h i, P a b c d e f g h i) (zk : ∀ a b c d e f g h i, P a b c d e f g h i → R) : R := by obtain ⟨a, b, c, d, e, f, g, h, i, p⟩ := zx; exact zk _ _ _ _ _ _ _ _ _ p
theorem el10 {α0 α1 α2 α3 α4 α5 α6 α7 α8 α9 : Type} {P : α0 → α1 → α2 → α3 → α4 → α5 → α6 → α7 → α8 → α9 → Prop} {R : Prop} (zx : ∃ a b c d e f g h i j, P a b c d e f g h i j) (zk : ∀ a b c d e f g h i j, P a b c d e f g h i j → R) : R := by obtain ⟨a, b, c, d, e, f, g, h, i, j, p⟩ := zx; exact zk _ _ _ _ _ _ _ _ _ _ p
theorem el12 {α0 α1 α2 α3 α4 α5 α6 α7 α8 α9 α10 α11 : Type} {P : α0 → α1 → α2 → α3 → α4 → α5 → α6 → α7 → α8 → α9 → α10 → α11 → Prop} {R : Prop} (zx : ∃ a b c d e f g h i j k l, P a b c d e f g h i j k l) (zk : ∀ a b c d e f g h i j k l, P a b c d e f g h i j k l → R) : R := by obtain ⟨a, b, c, d, e, f, g, h, i, j, k, l, p⟩ := zx; exact zk _ _ _ _ _ _ _ _ _ _ _ _ p
theorem el14 {α0 α1 α2 α3 α4 α5 α6 α7 α8 α9 α10 α11 α12 α13 : Type} {P : α0 → α1 → α2 → α3 → α4 → α5 → α6 → α7 → α8 → α9 → α10 → α11 → α12 → α13 → Prop} {R : Prop} (zx : ∃ a b c d e f g h i j k l m n, P a b c d e f g h i j k l m n) (zk : ∀ a b c d e f g h i j k l m n, P a b c d e f g h i j k l m n → R) : R := by obtain ⟨a, b, c, d, e, f, g, h, i, j, k, l, m, n, p⟩ := zx; exact zk _ _ _ _ _ _ _ _ _ _ _ _ _ _ p
theorem rm0 {dp D : Nat} (h : dp + D < recursionLimit) : dp < recursionLimit := Nat.lt_of_le_of_lt (Nat.le_add_right _ _) h
theorem rm1 {dp D d : Nat} (h : dp + D < recursionLimit) (k : Nat.ble (1 + d) D = true) : dp + 1 + d < recursionLimit := by have := Nat.le_of_ble_eq_true k; omega
theorem rm2 {dp c x d : Nat} (h : dp + (c + x) < recursionLimit) (k : Nat.ble (1 + d) c = true) : dp + 1 + d < recursionLimit := by have := Nat.le_of_ble_eq_true k; omega
theorem un1 {un D d : Nat} (h : un + 8 * D < cLine) (k : Nat.ble (1 + d) D = true) : un + 3 + 8 * d < cLine := by have := Nat.le_of_ble_eq_true k; omega
theorem un2 {un c x d : Nat} (h : un + 8 * (c + x) < cLine) (k : Nat.ble (1 + d) c = true) : un + 3 + 8 * d < cLine := by have := Nat.le_of_ble_eq_true k; omega
theorem un0 {un D c : Nat} (h : un + 8 * D < cLine) (k : Nat.ble c (8 * D) = true) : un + c < cLine := by have := Nat.le_of_ble_eq_true k; omega
theorem un3 {un c x d : Nat} (h : un + 8 * (c + x) < cLine) (k : Nat.ble d (8 * c) = true) : un + d < cLine := by have := Nat.le_of_ble_eq_true k; omega
theorem subC {a : Addr × Obj} {l Y : Led} (h1 : a ∈ Y) (h2 : ∀ p ∈ l, p ∈ Y) : ∀ p ∈ a :: l, p ∈ Y := List.forall_mem_cons.mpr ⟨h1, h2⟩
theorem subN {Y : Led} : ∀ p ∈ ([] : Led), p ∈ Y := List.forall_mem_nil _
theorem subT {a : Addr × Obj} {l Y : Led} (h : ∀ p ∈ l, p ∈ Y) : ∀ p ∈ l, p ∈ a :: Y := fun p hp => .tail _ (h p hp)
theorem subL {l Y Z : Led} (h : ∀ p ∈ l, p ∈ Y) : ∀ p ∈ l, p ∈ Y ++ Z := fun p hp => List.mem_append_left _ (h p hp)
theorem subR {l Y Z : Led} (h : ∀ p ∈ l, p ∈ Z) : ∀ p ∈ l, p ∈ Y ++ Z := fun p hp => List.mem_append_right _ (h p hp)
theorem sm1 {z x : Str} {a b c : Option Value} (h : z ≠ x) (k : b = c) : (if z = x then a else b) = c := by rw [if_neg h]; exact k
theorem sm2 {z : Str} {l : List Str} {a b c : Option Value} (h : l.contains z = false) (k : b = c) : (if l.contains z = true then a else b) = c := by rw [h]; exact k
theorem sm3 {z s : Str} {l : List Str} {a b c : Option Value} (h : l.contains z = false) (hs : s ∈ l) (k : b = c) : (if z = s then a else b) = c := by
  have : z ≠ s := by rintro rfl; rw [List.contains_iff_mem.mpr hs] at h; cases h
  rw [if_neg this]; exact k
theorem sm4 {z : Str} {a b c : Option Value} (k : b = c) : (if ([] : List Str).contains z = true then a else b) = c := k
section
variable {M : Model} {A : Around} {E : Value → Shared → Prop} {s : Shared} {env : Env}
theorem tW {Q : Flow → Shared → Prop} {a : PySem.Expr} {b c : List Stmt} {d : PySem.Pos} (h : wpAny M A (exec (Stmt.While a b c d) env) Q E s) : wpAny M A (exec (Stmt.While a b c d) env) Q E s := h
theorem tF {Q : Flow → Shared → Prop} {a b : PySem.Expr} {c d : List Stmt} {e : PySem.Pos} (h : wpAny M A (exec (Stmt.For a b c d e) env) Q E s) : wpAny M A (exec (Stmt.For a b c d e) env) Q E s := h
theorem tX {Q : Flow → Shared → Prop} {a b : Option PySem.Expr} {e : PySem.Pos} (h : wpAny M A (exec (Stmt.Raise a b e) env) Q E s) : wpAny M A (exec (Stmt.Raise a b e) env) Q E s := h
theorem tI {Q : Value → Shared → Prop} {a : Addr} (h : wpAny M A (pyIter (Value.ref a)) Q E s) : wpAny M A (pyIter (Value.ref a)) Q E s := h
theorem tR (n : Addr) {Q : Value → Shared → Prop} {vs : List Value} (h : wpAny M A (call (Value.ref n) vs) Q E s) : wpAny M A (call (Value.ref n) vs) Q E s := h
end
theorem tC {R : Shared → Prop} {f : Flow} {s : Shared} (h : CutP R f s) : CutP R f s := h
theorem rm3 {dp c a b : Nat} (h : dp + (c + a) < recursionLimit) (k : b < a) : dp + 1 + (c + b) < recursionLimit := by omega
theorem un4 {un c a b : Nat} (h : un + 8 * (c + a) < cLine) (k : b < a) : un + 3 + 8 * (c + b) < cLine := by omega

end
local macro_rules | `(tactic| lsm_bools) => `(tactic| (k_here; (with_reducible show wpAny _ _ (subscriptTail _ _ _ (Value.str (Nm.str _) _)) _ _ _); k_dflt (refine' sub_table (by assumption) (by assumption) (by first | exact fun _ h => List.mem_append_right _ h | exact fun _ h => .tail _ (List.mem_append_right _ h) | exact fun _ h => .tail _ (.tail _ (.tail _ (List.mem_append_right _ h)))) (by intro _; with_unfolding_all rfl) ?_; k_whole); intro a' t' u' n' hm'; (try dsimp only)))
local macro_rules | `(tactic| k_mem) => `(tactic| ((repeat (first | assumption | exact List.Mem.head _ | exact List.mem_append_right _ (by assumption) | exact List.mem_append_left _ (by assumption) | refine List.Mem.tail _ ?_)); done))
local macro_rules | `(tactic| is_tup) => `(tactic| exact News.isTup (by assumption) (by k_mem))
local macro_rules | `(tactic| k_all) => `(tactic| exact fun p hp => Nat.ne_of_lt ((by assumption : ∀ p ∈ _, p.1 < _) p hp))
local macro_rules | `(tactic| size_fits) => `(tactic| assumption)
local macro_rules | `(tactic| walk_at "call builtin:len") => `(tactic| (k_here; (with_reducible show wpAny _ _ (call (Value.builtin "len") [Value.ref _]) _ _ _); k_dflt (refine' len_listL (News.isList (by assumption) (by k_mem)) (by first | assumption | exact rfl) (by omega) ?_; k_whole)))
local macro_rules | `(tactic| lsm_bools) => `(tactic| (k_here; (with_reducible show wpAny _ _ (subscriptTail _ _ (Value.ref _) (Value.int _ _)) _ _ _); k_dflt (refine' item_listL (News.isList (by assumption) (by k_mem)) ?k0 ?fit ?hx ?_ ?hs ?hg; (case hx => first | assumption | exact rfl); (case k0 => first | decide | omega); (case fit => first | decide | omega); (case hs => with_unfolding_all rfl); (case hg => intro _; with_unfolding_all rfl); k_whole)))
local macro_rules | `(tactic| lsm_bools) => `(tactic| (k_here; (first | (with_reducible show wpAny _ _ (subscriptTail _ _ (Value.ref _) (Value.int 0 _)) _ _ _) | (with_reducible show wpAny _ _ (subscriptTail _ _ (Value.ref _) (Value.int 1 _)) _ _ _) | (with_reducible show wpAny _ _ (subscriptTail _ _ (Value.ref _) (Value.int 2 _)) _ _ _)); k_dflt (refine' item_tupleT (by exact News.isTup (by k_asm) (by k_mem)) (by decide) (by decide) (by rfl) (by rfl) ?_; k_whole)))
local macro_rules | `(tactic| walk_at "subscriptTail") => `(tactic| lsm_bools)
local macro_rules | `(tactic| walk_at "subscriptTail Name") => `(tactic| lsm_bools)
local macro_rules | `(tactic| walk_at "subscriptTail Name Name ref int") => `(tactic| lsm_bools)
local macro_rules | `(tactic| walk_at "subscriptTail Name Constant ref int") => `(tactic| lsm_bools)
local macro_rules | `(tactic| walk_at "callWith ref") => `(tactic| (k_here; k_dflt (first | (refine' callWith_K ?k1 ?k2 ?_; (case k1 => k_asm); (case k2 => k_is); k_whole) | (refine' callWith_K0 ?k1 ?k2 ?_; (case k1 => k_in); (case k2 => k_is); k_whole))))
local macro_rules | `(tactic| k_all) => `(tactic| assumption)
local macro_rules | `(tactic| walk_at "subscriptTail Name Slice ref ref") => `(tactic| (k_here; (with_reducible show wpAny _ _ (subscriptTail _ (PySem.Expr.Slice (some _) none none _) (Value.ref _) (Value.ref _)) _ _ _); k_dflt (refine' kmk_slice_lit (by k_asm) (by k_asm) (by exact News.isList (by assumption) (by k_mem)) (by kmk_part) (by kmk_part) (pick_from (by first | decide | omega)) ?_ (by with_unfolding_all rfl) (by kmk_pure) (by simp only [List.size_toArray, List.length_cons, sizeLine_eq]; omega)); intro D' h' F' N' l1))
local macro_rules | `(tactic| walk_at "subscriptTail Name Slice ref ref") => `(tactic| (k_here; (with_reducible show wpAny _ _ (subscriptTail _ (PySem.Expr.Slice none (some _) none _) (Value.ref _) (Value.ref _)) _ _ _); k_dflt (refine' kmk_slice_lit (by k_asm) (by k_asm) (by exact News.isList (by assumption) (by k_mem)) (by kmk_part) (by kmk_part) (pick_to (by first | decide | omega)) ?_ (by with_unfolding_all rfl) (by kmk_pure) (by simp only [List.size_toArray, List.length_cons, sizeLine_eq]; omega)); intro D' h' F' N' l1))
local macro_rules | `(tactic| k_room) => `(tactic| ktr_room)
local macro_rules | `(tactic| k_units) => `(tactic| ktr_units)
local macro_rules | `(tactic| walk_at "getMethod ref") => `(tactic| (k_here; k_dflt (first
  | (refine' method_inst (by k_asm) (by k_asm) (by k_inst) (by k_is) (by k_is) (by k_is) (by k_get) ?_; k_whole)
  | (refine' kmu_own (by k_asm) (by k_asm) (by k_inst) (by k_is) (by k_is) ?_; k_whole))))

set_option hygiene false in
local macro_rules | `(tactic| walk_at "norm") => `(tactic| ((try k_fold); (try (with_reducible refine' st_gen ?hg ?hd ?ho ?_; (case hg => first | (dsimp only; done) | (dsimp only; exact rfl) | exact rfl); (case hd => first | (dsimp only; done) | (dsimp only; exact rfl) | exact rfl); (case ho => first | (dsimp only; done) | (dsimp only; exact rfl) | exact rfl); intro tkX))))
set_option hygiene false in
local macro_rules | `(tactic| walk_at "execs cons") => `(tactic| (walk_at "norm"; first | (with_reducible refine xc_one ?_) | (with_reducible refine xc_cons ?_; intro qX hN hR)))
local macro_rules | `(tactic| ktr_room) => `(tactic| first | exact rm1 (by assumption) (by exact rfl) | exact rm2 (by assumption) (by exact rfl) | exact rm0 (by assumption))
local macro_rules | `(tactic| ktr_units) => `(tactic| first | exact un1 (by assumption) (by exact rfl) | exact un2 (by assumption) (by exact rfl) | exact un0 (by assumption) (by exact rfl) | exact un3 (by assumption) (by exact rfl))
local macro_rules | `(tactic| kfm_turns) => `(tactic| first | with_reducible assumption | with_reducible exact List.mem_cons_self | (with_reducible refine List.mem_cons_of_mem _ ?_; kfm_turns) | (with_reducible refine List.mem_append_right _ ?_; kfm_turns) | (with_reducible refine List.mem_append_left _ ?_; kfm_turns))
local macro_rules | `(tactic| kpt_turns) => `(tactic| first | with_reducible exact sub0 | with_reducible assumption | (with_reducible refine subT ?_; kpt_turns) | (with_reducible refine subR ?_; kpt_turns) | (with_reducible refine subL ?_; kpt_turns))
local macro_rules | `(tactic| kpc_turns) => `(tactic| first | with_reducible exact subN | (with_reducible refine subC ?sca ?scb; (case sca => kfm_turns); (case scb => kpc_turns)) | (with_reducible refine subM ?sca ?scb; (case sca => kpc_turns); (case scb => kpc_turns)) | kpt_turns)

section
theorem flat_len {α β : Type} (f : α → List β) (B : Nat) : ∀ l : List α, (∀ x ∈ l, (f x).length ≤ B) → (l.flatMap f).length ≤ l.length * B
  | [], _ => by simp
  | x :: l, h => by
    have h1 := flat_len f B l fun y hy => h y (.tail _ hy)
    have h2 := h x (.head _)
    rw [List.flatMap_cons, List.length_append, List.length_cons, Nat.succ_mul]
    omega
theorem inner_len (T : Tb) (x : Nm) (l : Tr) (rs : List Tr) : (inner T x l rs).length ≤ rs.length := by
  unfold inner
  rw [List.length_map]
  exact List.length_filter_le ..
theorem treesN_len (T : Tb) : ∀ (n : Nat) (l : List It), l.length ≤ 11 → (treesN T n l).length * 4 ≤ 4 ^ l.length := by
  intro n
  induction n with
  | zero => intro l _; simp [treesN]
  | succ n ih =>
    intro l hl
    match l, hl with
    | [], _ => simp [treesN]
    | [.num i], _ => simp [treesN]
    | [.sym _], _ => simp [treesN]
    | i :: j :: rest, hl =>
      simp only [List.length_cons] at hl
      have h1 : ((if i = .sym .mi then ((treesN T n (j :: rest)).filter (minusV T)).map .neg else []) : List Tr).length * 4 ≤ 4 ^ (rest.length + 1) := by
        have := ih (j :: rest) (by simp only [List.length_cons]; omega)
        simp only [List.length_cons] at this
        split
        · rw [List.length_map]
          exact Nat.le_trans (Nat.mul_le_mul_right _ (List.length_filter_le ..)) this
        · simp
      have h2 : ((List.range (rest.length + 1)).flatMap (atK T (treesN T n) (i :: j :: rest))).length ≤ (rest.length + 1) * (4 ^ (rest.length + 1) / 16) := by
        refine Nat.le_trans (flat_len _ (4 ^ (rest.length + 1) / 16) _ ?_) (by rw [List.length_range]; exact Nat.le_refl _)
        intro k hk
        have hk' := List.mem_range.mp hk
        unfold atK
        split
        · split
          · simp
          · have ha := ih ((i :: j :: rest).take (k + 1)) (by rw [List.length_take]; simp only [List.length_cons]; omega)
            have hb := ih ((i :: j :: rest).drop (k + 2)) (by rw [List.length_drop]; simp only [List.length_cons]; omega)
            rw [List.length_take] at ha
            rw [List.length_drop] at hb
            simp only [List.length_cons] at ha hb
            rw [Nat.min_eq_left (by omega)] at ha
            refine Nat.le_trans (flat_len _ (treesN T n ((i :: j :: rest).drop (k + 2))).length _ fun a _ => inner_len ..) ?_
            rw [Nat.le_div_iff_mul_le (by decide)]
            have e : 4 ^ (rest.length + 1) = 4 ^ (k + 1) * 4 ^ (rest.length + 1 + 1 - (k + 2)) := by rw [← Nat.pow_add]; congr 1; omega
            rw [e]
            calc _ = ((treesN T n ((i :: j :: rest).take (k + 1))).length * 4) * ((treesN T n ((i :: j :: rest).drop (k + 2))).length * 4) := by
                    simp only [Nat.mul_assoc, Nat.mul_comm, Nat.mul_left_comm]
              _ ≤ _ := Nat.mul_le_mul ha hb
        · simp
      have e : 4 ^ (rest.length + 1 + 1) = 4 ^ (rest.length + 1) * 4 := Nat.pow_succ ..
      simp only [treesN, List.length_append, List.length_cons]
      rw [e]
      have h3 : (rest.length + 1) * (4 ^ (rest.length + 1) / 16) ≤ 10 * (4 ^ (rest.length + 1) / 16) := Nat.mul_le_mul_right _ (by omega)
      generalize 4 ^ (rest.length + 1) = B at *
      omega
theorem treesN_size (T : Tb) : ∀ (n : Nat) (l : List It) (t : Tr), t ∈ treesN T n l → t.size ≤ l.length := by
  intro n
  induction n with
  | zero => intro l t h; simp [treesN] at h
  | succ n ih =>
    intro l t h
    match l, h with
    | [], h => simp [treesN] at h
    | [.num i], h => simp [treesN] at h; subst h; simp [Tr.size]
    | [.sym _], h => simp [treesN] at h
    | i :: j :: rest, h =>
      simp only [treesN, List.mem_append] at h
      rcases h with h | h
      · split at h
        · obtain ⟨u, hu, rfl⟩ := List.mem_map.mp h
          have := ih _ _ (List.mem_filter.mp hu).1
          simp only [Tr.size, List.length_cons] at this ⊢
          omega
        · simp at h
      · obtain ⟨k, hk, h⟩ := List.mem_flatMap.mp h
        have hk' := List.mem_range.mp hk
        unfold atK at h
        split at h
        · split at h
          · simp at h
          · obtain ⟨a, ha, h⟩ := List.mem_flatMap.mp h
            unfold inner at h
            obtain ⟨b, hb, rfl⟩ := List.mem_map.mp h
            have h1 := ih _ _ ha
            have h2 := ih _ _ (List.mem_filter.mp hb).1
            rw [List.length_take] at h1
            rw [List.length_drop] at h2
            simp only [Tr.size, List.length_cons] at h1 h2 ⊢
            omega
        · simp at h
theorem trees_room {T : Tb} {n : Nat} {l : List It} (h : l.length ≤ 11) : (treesN T n l).length ≤ 2000000 := by
  have h1 := treesN_len T n l h
  have h2 : 4 ^ l.length ≤ 4 ^ 11 := Nat.pow_le_pow_right (by decide) h
  have h3 : (4 : Nat) ^ 11 = 4194304 := by decide
  omega
theorem vld_due {l : List It} (h : vldA l true true = true) : vld l = true := by
  cases l with
  | nil => cases h
  | cons i r => cases i with
    | num j => exact h
    | sym x => cases h
theorem vld_sym {x : Nm} {l : List It} (h : vld (.sym x :: l) = true) : x = .mi ∧ vldA l true true = true :=
  (Bool.and_eq_true_iff.mp h).imp of_decide_eq_true id
theorem vld_minus {l : List It} (h : vld (.sym .mi :: l) = true) : vld l = true := vld_due (vld_sym h).2
structure Gr (A B C : Led) : Prop where
  sub : ∀ p ∈ B, p ∈ C
  fr : Fresh A B C
theorem Gr.refl {A B : Led} : Gr A B B := ⟨sub0, .refl⟩
theorem Gr.trans {A A' B C D : Led} (h : Gr A B C) (k : Gr A' C D) (hs : ∀ p ∈ A, p ∈ A') : Gr A B D := ⟨fun p hp => k.sub p (h.sub p hp), h.fr.trans k.fr hs⟩
theorem Gr.cons {A B C : Led} {a : Addr} {o : Obj} (h : Gr A B C) (hl : ∀ q ∈ A, q.1 < a) : Gr A B ((a, o) :: C) := ⟨fun p hp => .tail _ (h.sub p hp), h.fr.cons hl⟩
theorem Gr.mono {A A' B C : Led} (h : Gr A' B C) (hs : ∀ p ∈ A, p ∈ A') : Gr A B C := ⟨h.sub, fun p hp => (h.fr p hp).imp id fun k q hq => k q (hs q hq)⟩
theorem of_allLt {d : Addr} : ∀ {l : Led}, AllLt d l → ∀ p ∈ l, p.1 < d
  | [], _ => fun p hp => absurd hp List.not_mem_nil
  | q :: l, h => fun p hp => by
    rcases List.mem_cons.mp hp with rfl | hp
    · exact h.1
    · exact of_allLt h.2 p hp
structure FJ (f : Addr) (M P : Led) (ws : List Value) (acc : List Tr) (Px : Led) : Prop where
  gr : Gr (M ++ P) P Px
  off : ∀ p ∈ M ++ Px, p.1 ≠ f
  are : TrsAre Px ws acc
theorem FJ.call {f : Addr} {o : Obj} {M P Px P3 : Led} {ws : List Value} {acc : List Tr} (h : FJ f M P ws acc Px) (g : Gr ((f, o) :: M ++ Px) Px P3) : FJ f M P ws acc P3 := by
  refine ⟨h.gr.trans g ?_, offs_fresh h.off g.fr (.head _), h.are.mono g.sub⟩
  intro p hp
  rcases List.mem_append.mp hp with hp | hp
  · exact .tail _ (List.mem_append_left _ hp)
  · exact .tail _ (List.mem_append_right _ (h.gr.sub p hp))
theorem FJ.new {f D : Addr} {o : Obj} {M P Px : Led} {ws : List Value} {acc : List Tr} (h : FJ f M P ws acc Px) (hl : f < D) (hl2 : ∀ p ∈ M ++ Px, p.1 < D) : FJ f M P ws acc ((D, o) :: Px) := by
  refine ⟨h.gr.cons ?_, ?_, h.are.mono sub1⟩
  · intro p hp
    rcases List.mem_append.mp hp with hp | hp
    · exact hl2 p (List.mem_append_left _ hp)
    · exact hl2 p (List.mem_append_right _ (h.gr.sub p hp))
  · intro p hp
    rcases List.mem_append.mp hp with hp | hp
    · exact h.off p (List.mem_append_left _ hp)
    · rcases List.mem_cons.mp hp with rfl | hp
      · exact Nat.ne_of_gt hl
      · exact h.off p (List.mem_append_right _ hp)
theorem FJ.push {f : Addr} {M P Px : Led} {ws : List Value} {acc : List Tr} {v : Value} {t : Tr} (h : FJ f M P ws acc Px) (ht : TrIn Px v t) : FJ f M P (ws ++ [v]) (acc ++ [t]) Px := ⟨h.gr, h.off, h.are.snoc ht⟩
theorem FJ.enter {f : Addr} {o : Obj} {own M P Px : Led} {ws : List Value} {acc : List Tr} (h : FJ f M P ws acc Px) (ho : OwnOff own (((f, o) :: M ++ Px).map (·.1))) : FJ f (own ++ M) Px ws acc Px := by
  refine ⟨.refl, ?_, h.are⟩
  intro p hp
  rw [List.append_assoc] at hp
  rcases List.mem_append.mp hp with hp | hp
  · exact ho p hp f (by simp)
  · exact h.off p hp
theorem FJ.exit {f : Addr} {o o' : Obj} {own M P Px Px' : Led} {ws ws' : List Value} {acc acc' : List Tr} (h : FJ f M P ws acc Px) (ho : OwnOff own (((f, o) :: M ++ Px).map (·.1))) (k : FJ f (own ++ M) Px ws' acc' Px') :
    OwnOff own (((f, o') :: M ++ Px').map (·.1)) ∧ FJ f M P ws' acc' Px' := by
  refine ⟨?_, h.gr.trans k.gr ?_, ?_, k.are⟩
  · exact ownoff_fresh (A := (own ++ M) ++ Px) (Mx := (f, o) :: M) (Mx' := (f, o') :: M) ho rfl k.gr.fr fun p hp => List.mem_append_left _ (List.mem_append_left _ hp)
  · intro p hp
    rcases List.mem_append.mp hp with hp | hp
    · exact List.mem_append_left _ (List.mem_append_right _ hp)
    · exact List.mem_append_right _ (h.gr.sub p hp)
  · intro p hp
    exact k.off p (by rw [List.append_assoc]; exact List.mem_append_right _ hp)
-- splitting a row
theorem vldA_split {x : Nm} (hx : x ≠ .mi) : ∀ {l : List It} {d m : Bool} {k : Nat}, vldA l d m = true → l[k]? = some (.sym x) → vldA (l.take k) d m = true ∧ vldA (l.drop (k + 1)) true false = true := by
  intro l
  induction l with
  | nil => intro d m k _ e; cases e
  | cons i r ih =>
    intro d m k h e
    cases k with
    | zero =>
      cases e
      cases d with
      | true => exact absurd (of_decide_eq_true (Bool.and_eq_true_iff.mp (Bool.and_eq_true_iff.mp h).2).1) hx
      | false => exact ⟨rfl, (Bool.and_eq_true_iff.mp h).2⟩
    | succ k =>
      cases i with
      | num j =>
        obtain ⟨h1, h2⟩ := Bool.and_eq_true_iff.mp h
        obtain ⟨a, b⟩ := ih h2 e
        exact ⟨Bool.and_eq_true_iff.mpr ⟨h1, a⟩, b⟩
      | sym y =>
        cases d with
        | true =>
          obtain ⟨h1, h2⟩ := Bool.and_eq_true_iff.mp h
          obtain ⟨h2, h3⟩ := Bool.and_eq_true_iff.mp h2
          obtain ⟨a, b⟩ := ih h3 e
          exact ⟨Bool.and_eq_true_iff.mpr ⟨h1, Bool.and_eq_true_iff.mpr ⟨h2, a⟩⟩, b⟩
        | false =>
          obtain ⟨h1, h2⟩ := Bool.and_eq_true_iff.mp h
          obtain ⟨a, b⟩ := ih h2 e
          exact ⟨Bool.and_eq_true_iff.mpr ⟨h1, a⟩, b⟩
theorem vld_split {x : Nm} (hx : x ≠ .mi) {l : List It} {k : Nat} (h : vld l = true) (e : l[k + 1]? = some (.sym x)) : vld (l.take (k + 1)) = true ∧ vld (l.drop (k + 2)) = true := vldA_split hx h e
theorem isPrefix_len {α : Type} {a b : List α} (h : a <+: b) : a.length ≤ b.length := h.length_le
theorem range_pre {α : Type} (f : Nat → List α) {i n : Nat} (h : i ≤ n) : (List.range i).flatMap f <+: (List.range n).flatMap f := by
  induction n with
  | zero => rw [Nat.le_zero.mp h]; exact List.prefix_refl _
  | succ n ih =>
    rcases Nat.lt_or_eq_of_le h with h | rfl
    · rw [List.range_succ, List.flatMap_append]
      exact (ih (by omega)).trans (List.prefix_append _ _)
    · exact List.prefix_refl _
theorem take_pre {α β : Type} (f : α → List β) (l : List α) (i : Nat) : (l.take i).flatMap f <+: l.flatMap f := by
  conv => rhs; rw [← List.take_append_drop i l, List.flatMap_append]
  exact List.prefix_append _ _
theorem inner_pre (T : Tb) (x : Nm) (l : Tr) (rs : List Tr) (i : Nat) : inner T x l (rs.take i) <+: inner T x l rs := by
  conv => rhs; rw [← List.take_append_drop i rs]
  unfold inner
  rw [List.filter_append, List.map_append]
  exact List.prefix_append _ _
theorem take_snoc {α β : Type} (f : α → List β) {l : List α} {i : Nat} {x : α} (h : l[i]? = some x) : (l.take (i + 1)).flatMap f = (l.take i).flatMap f ++ f x := by
  rw [List.take_add_one, h, List.flatMap_append]; simp
theorem okb1 {T : Tb} {x : Nm} {l r : Tr} (h : besideV T x l false = false) : okBin T x l r = false := by unfold okBin; rw [h]; rfl
theorem okb2 {T : Tb} {x : Nm} {l r : Tr} (h : besideV T x r true = false) : okBin T x l r = false := by unfold okBin; rw [h, Bool.and_false]; rfl
theorem okb3 {T : Tb} {x : Nm} {l r : Tr} (h : signedV T x r = false) : okBin T x l r = false := by unfold okBin; rw [h, Bool.and_false]
theorem okb4 {T : Tb} {x : Nm} {l r : Tr} (h : besideV T x l false = true) (h2 : besideV T x r true = true) (h3 : signedV T x r = true) : okBin T x l r = true := by unfold okBin; rw [h, h2, h3]; rfl
theorem inner_yes {T : Tb} {x : Nm} {l r : Tr} {rs : List Tr} {i : Nat} (h : rs[i]? = some r) (hk : okBin T x l r = true) : inner T x l (rs.take (i + 1)) = inner T x l (rs.take i) ++ [.bin x l r] := by
  unfold inner
  rw [List.take_add_one, h, List.filter_append, List.map_append]
  simp [hk]
theorem inner_no {T : Tb} {x : Nm} {l r : Tr} {rs : List Tr} {i : Nat} (h : rs[i]? = some r) (hk : okBin T x l r = false) : inner T x l (rs.take (i + 1)) = inner T x l (rs.take i) := by
  unfold inner
  rw [List.take_add_one, h, List.filter_append, List.map_append]
  simp [hk]
theorem range_snoc {α : Type} (f : Nat → List α) (i : Nat) : (List.range (i + 1)).flatMap f = (List.range i).flatMap f ++ f i := by
  rw [List.range_succ, List.flatMap_append]; simp
theorem FJ.newN {g h : Heap} {L : Addr} {X : Led} {f D : Addr} {o : Obj} {M P Px : Led} {ws : List Value} {acc : List Tr} (j : FJ f M P ws acc Px) (_N : News g L h ((D, o) :: X)) (hl : f < D ∧ AllLt D (M ++ Px)) : FJ f M P ws acc ((D, o) :: Px) := j.new hl.1 (of_allLt hl.2)
theorem atK_eq {T : Tb} {f : List It → List Tr} {row : List It} {k : Nat} {x : Nm} (h : row[k + 1]? = some (.sym x)) (hx : x ≠ .mi) : atK T f row k = (f (row.take (k + 1))).flatMap fun a => inner T x a (f (row.drop (k + 2))) := by
  unfold atK; rw [h]; simp only [if_neg hx]
theorem atK_mi {T : Tb} {f : List It → List Tr} {row : List It} {k : Nat} (h : row[k + 1]? = some (.sym .mi)) : atK T f row k = [] := by
  unfold atK; rw [h]; simp
theorem atK_num {T : Tb} {f : List It → List Tr} {row : List It} {k i : Nat} (h : row[k + 1]? = some (.num i)) : atK T f row k = [] := by
  unfold atK; rw [h]
theorem flat_pre {α β : Type} (f : α → List β) {l : List α} {a : Nat} {x : α} {b c : List β} (h : l[a]? = some x) (hb : b <+: f x) (hc : c = l.flatMap f) : (l.take a).flatMap f ++ b <+: c := by
  subst hc
  have := take_pre f l (a + 1)
  rw [take_snoc f h] at this
  exact ((List.prefix_append_right_inj _).mpr hb).trans this
theorem acc_room {T : Tb} {n : Nat} {i j : It} {rest : List It} {bs : List Tr} {k a b : Nat} {x : Nm} {lefts rights : List Tr} {l : Tr} (hbs : (if i = It.sym Nm.mi then List.map Tr.neg (List.filter (minusV T) (treesN T n (j :: rest))) else []) = bs)
    (hk : k < rest.length + 1) (hit : (i :: j :: rest)[k + 1]? = some (.sym x)) (hx : x ≠ .mi) (hL : lefts = treesN T n ((i :: j :: rest).take (k + 1))) (hR : rights = treesN T n ((i :: j :: rest).drop (k + 2))) (hl : lefts[a]? = some l) :
    (((bs ++ (List.range k).flatMap (atK T (treesN T n) (i :: j :: rest))) ++ (lefts.take a).flatMap (fun l => inner T x l rights)) ++ inner T x l (rights.take b)).length ≤ (treesN T (n + 1) (i :: j :: rest)).length := by
  refine List.IsPrefix.length_le ?_
  simp only [treesN, hbs, List.append_assoc]
  refine (List.prefix_append_right_inj _).mpr ?_
  have h1 := range_pre (atK T (treesN T n) (i :: j :: rest)) (i := k + 1) (n := rest.length + 1) (by omega)
  refine List.IsPrefix.trans ?_ h1
  rw [range_snoc]
  refine (List.prefix_append_right_inj _).mpr ?_
  exact flat_pre _ hl (inner_pre ..) (by rw [atK_eq hit hx, hL, hR])
theorem Gr.alloc {M P P1 : Led} {D : Addr} {o : Obj} (g : Gr (M ++ P) P P1) (l : ∀ p ∈ M ++ P1, p.1 < D) : Gr (M ++ P) P ((D, o) :: P1) :=
  g.cons fun q hq => (List.mem_append.mp hq).elim (fun h => l q (List.mem_append_left _ h)) fun h => l q (List.mem_append_right _ (g.sub q h))
theorem Gr.call {M P P1 P2 : Led} (g : Gr (M ++ P) P P1) (hs : ∀ p ∈ P1, p ∈ P2) (hf : ∀ p ∈ P2, p ∈ P1 ∨ ∀ q ∈ M ++ P1, q.1 ≠ p.1) : Gr (M ++ P) P P2 :=
  g.trans (A' := M ++ P1) ⟨hs, hf⟩ fun p hp => (List.mem_append.mp hp).elim (fun h => List.mem_append_left _ h) fun h => List.mem_append_right _ (g.sub p h)
noncomputable def Tr.dat : Tr → Dat
  | .leaf i => .tuple [.str (Str.ofString "lit"), .str (Str.ofString "int"), .int i]
  | .neg t => .tuple [.str (Str.ofString "neg"), t.dat]
  | .bin x l r => .tuple [.str (Str.ofString "app"), .tuple [.str (Str.ofString "app"), .tuple [.str (if x = .col then Str.ofString "con" else Str.ofString "var"), .str x.str], l.dat], r.dat]
noncomputable def LawNodeS (w : World) (t : Tr) : Prop := Spec w 510 (D := Unit) (fun _ => 5 + t.size)
    (fun P vs _ => ∃ v, vs = [v] ∧ TrIn P v t) (fun P r _ => DatIn P r t.dat)
theorem Gr.inst {M P P1 : Led} {d x : Addr} {o o' : Obj} (g : Gr (M ++ P) P P1) (l1 : ∀ p ∈ M ++ P1, p.1 < d) (l2 : d < x) : Gr (M ++ P) P ((x, o') :: (d, o) :: P1) := by
  have g1 := g.alloc (o := o) l1
  refine ⟨fun p hp => .tail _ (g1.sub p hp), ?_⟩
  intro p hp
  rcases List.mem_cons.mp hp with rfl | hp
  · refine .inr fun q hq => Nat.ne_of_lt (Nat.lt_trans ?_ l2)
    exact (List.mem_append.mp hq).elim (fun h => l1 q (List.mem_append_left _ h)) fun h => l1 q (List.mem_append_right _ (g.sub q h))
  · exact g1.fr p hp
theorem mv3 {x y z : Addr × Obj} {M P : Led} : ∀ p ∈ M ++ (x :: y :: z :: P), p ∈ x :: y :: z :: (M ++ P) := mvN [x, y, z]
theorem Gr.allocN {g0 h : Heap} {L : Addr} {M P P1 X : Led} {D : Addr} {o : Obj} (g : Gr (M ++ P) P P1) (_N : News g0 L h ((D, o) :: X)) (l : AllLt D X) (hs : ∀ p ∈ M ++ P1, p ∈ X) : Gr (M ++ P) P ((D, o) :: P1) := g.alloc fun p hp => of_allLt l p (hs p hp)

end
section
noncomputable def PoolS (w : World) : Prop :=
  ∀ (mean : ExcName → Option Value) (mg mb : Str → Option Value) (dp un : Nat) (gd : Option (List Code)) (cn : Str) (cs : Scope) (a : Addr) (ccd : Value) (cl : List (Str × Addr)) (outer : List Env) (A₀ : Around) (base h₀ : Heap) (L : Addr) (m : Str → Option Value) (nw : Led) (s : Shared) (la : Addr) (vs : List Value) (ns : List Int)
    (Q E : Value → Shared → Prop),
    Below A₀ base outer h₀ → Fr h₀ L s.heap m → (Mine.hd.heap_1 w.params).In h₀ → News h₀ L s.heap nw → Top topProg LO2 mean mg mb h₀ → cs.kind = .function → h₀.IsList la vs.toArray → IntsAre vs ns → ns.length ≤ 63 → dp + 8 < recursionLimit → un + 8 * 8 < cLine → (PySem.Challenge.rw_np0230_01.row.prog = PySem.Challenge.rw_np0230_01.row.prog →
    ∀ S x y tx ty n h' tk', Fr h₀ L h' m → News h₀ L h' ((S, listOf #[.int x tx, .int y ty] n) :: nw) → (∀ p ∈ nw, p.1 < S) → Q (.ref S) { s with heap := h', toks := tk' }) →
    wpAny (model PySem.Challenge.rw_np0230_01.row.prog w) (ktrTop dp un gd cn cs L a ccd cl outer) (call (.ref 447) [.ref la]) Q E s
theorem one_frame {v V : Value} {m₀ u : Str → Option Value} (x z : Str) (h : u z = some V) :
    (fun y => if y = x then some v else if [z].contains y then u y else m₀ y) = fun y => if y = x then some v else if y = z then some V else m₀ y := by
  funext y
  by_cases h1 : y = x
  · simp [h1]
  · by_cases h2 : y = z
    · subst h2; simp [h1, h]
    · simp [h1, h2]
theorem one_frame2 {V : Value} {r m₀ u : Str → Option Value} (x z : Str) (h : u z = some V) :
    (fun y => if y = x then r y else if [z].contains y then u y else m₀ y) = fun y => if y = x then r y else if y = z then some V else m₀ y := by
  funext y
  by_cases h1 : y = x
  · simp [h1]
  · by_cases h2 : y = z
    · subst h2; simp [h1, h]
    · simp [h1, h2]
theorem fmod_b {a b : Int} (h : 0 < b) : 0 ≤ a.fmod b ∧ a.fmod b < b := ⟨Int.fmod_nonneg_of_pos _ h, Int.fmod_lt_of_pos _ h⟩
theorem pool_spec (w : World) : PoolS w := by
  unfold PoolS
  k_fill
  rintro mean mg mb dp un gd cn cs a ccd cl outer A₀ base h₀ L m nw s la vs ns Q E B F X N TT hk hla hI h63 hd hu hret
  refine wpAny_call ?_
  k_dflt ktr_enter
  w_strict (
    walk_at "norm"
    rename_i g1 L1 h1 FG1 F1 N1 B1 X1 T1
    (replace F1 := fr_lk [(Str.ofString "script", .ref la)] F1)
    (dsimp only [lkm] at F1)
    obtain ⟨ol, hol, hol2⟩ := hla
    have hla : g1.IsList la vs.toArray := ⟨ol, FG1.keep _ _ hol, hol2⟩
    (repeat' (first | ((fail_if_success (with_reducible (first | refine tW ?_ | refine tI ?_ | refine tF ?_ | refine tC ?_ | refine tR 475 ?_ | refine tR 482 ?_ | refine tR 489 ?_ | refine tR 496 ?_ | refine tR 503 ?_ | refine tR 510 ?_))); first | ((with_reducible show WhileStep2 _ _ _ _ _ _ (Flow.ret _) _); dsimp only [WhileStep2]) | ((with_reducible show TurnP _ _ _ _ _ _ _ _ _ (Flow.ret _) _); dsimp only [TurnP]) | (k_unfold; (try dsimp only)) | (k_end; first | refine' next_q (by with_reducible assumption) ?_ | refine' ret_q (by with_reducible assumption) ?_ | refine' brk_q (by with_reducible assumption) ?_ | refine' cont_q (by with_reducible assumption) ?_) | (k_end; wrow_close) | walk1 | (dsimp only; walk1) | (leave1; walk_say "STEP leave1"; try dsimp only)) | fail "no step"))
    all_goals (
      (rename Fr _ _ _ _ => F2)
      refine For_invVF F2 rfl rfl ?_
      (repeat' (first | ((fail_if_success (with_reducible (first | refine tW ?_ | refine tI ?_ | refine tF ?_ | refine tC ?_ | refine tR 475 ?_ | refine tR 482 ?_ | refine tR 489 ?_ | refine tR 496 ?_ | refine tR 503 ?_ | refine tR 510 ?_))); first | ((with_reducible show WhileStep2 _ _ _ _ _ _ (Flow.ret _) _); dsimp only [WhileStep2]) | ((with_reducible show TurnP _ _ _ _ _ _ _ _ _ (Flow.ret _) _); dsimp only [TurnP]) | (k_unfold; (try dsimp only)) | (k_end; first | refine' next_q (by with_reducible assumption) ?_ | refine' ret_q (by with_reducible assumption) ?_ | refine' brk_q (by with_reducible assumption) ?_ | refine' cont_q (by with_reducible assumption) ?_) | (k_end; wrow_close) | walk1 | (dsimp only; walk1) | (leave1; walk_say "STEP leave1"; try dsimp only)) | fail "no step"))

      (rename IsRange _ _ _ _ _ _ _ _ => rg)
      (rename Fr _ _ _ _ => F4)
      (rename News _ _ _ _ => N4)
      (dsimp only at F4 rg)
      have hn : ∃ n : Nat, n ≤ 20 ∧ n ≤ ns.length ∧ (if 20 < (ns.length : Int) then 20 else (ns.length : Int)) = (n : Int) := by
        split
        · exact ⟨20, by omega, by omega, rfl⟩
        · exact ⟨ns.length, by omega, by omega, rfl⟩
      obtain ⟨n, hn20, hnl, hne⟩ := hn
      rw [hne] at rg
      refine forR (M := nw) (P := []) (n := n) [Str.ofString "mixed"] (fun i u Mx Px => Mx = nw ∧ Px = [] ∧ ∃ z t, u (Str.ofString "mixed") = some (.int z t) ∧ 0 ≤ z ∧ z < 2147483647) rfl rg (small_one (by omega) (by omega) (by omega) (by omega)) (by rw [rangeSize_nat]; omega) F4 (by rw [List.append_nil]; exact N4) ⟨rfl, rfl, _, _, rfl, Int.add_nonneg (Int.fmod_nonneg_of_pos _ (by decide)) (by decide), Int.lt_trans (Int.add_lt_add_right (Int.fmod_lt_of_pos _ (by decide)) 17) (by decide)⟩ ?_ ?_)
    all_goals first
      | (rintro i t u _ _ h6 tk6 own hi ho hDD1 F5 N5
         walk_at "norm"
         obtain ⟨rfl, rfl, z, tz, hz, hz0, hz1⟩ := hDD1
         rw [one_frame _ _ hz] at F5
         clear F4 N4
         (repeat' (first | ((fail_if_success (with_reducible (first | refine tW ?_ | refine tI ?_ | refine tF ?_ | refine tC ?_ | refine tR 475 ?_ | refine tR 482 ?_ | refine tR 489 ?_ | refine tR 496 ?_ | refine tR 503 ?_ | refine tR 510 ?_))); first | ((with_reducible show WhileStep2 _ _ _ _ _ _ (Flow.ret _) _); dsimp only [WhileStep2]) | ((with_reducible show TurnP _ _ _ _ _ _ _ _ _ (Flow.ret _) _); dsimp only [TurnP]) | (k_unfold; (try dsimp only)) | (k_end; first | refine' next_q (by with_reducible assumption) ?_ | refine' ret_q (by with_reducible assumption) ?_ | refine' brk_q (by with_reducible assumption) ?_ | refine' cont_q (by with_reducible assumption) ?_) | (k_end; wrow_close) | walk1 | (dsimp only; walk1) | (leave1; walk_say "STEP leave1"; try dsimp only)) | fail "no step"))
         exact ex5 _ _ _ _ [] ⟨rfl, by assumption, by assumption, ho, by (first | (intro z h1 h3; (repeat' (first | with_reducible rfl | with_reducible refine sm1 h1 ?_ | with_reducible refine sm2 h3 ?_ | with_reducible refine sm4 ?_ | with_reducible refine sm3 h3 (by kfm_turns) ?_)); done) | (intro z h1 h3; (try simp only [List.contains_cons, List.contains_nil, Bool.or_false, Bool.or_eq_false_iff, beq_eq_false_iff_ne, ne_eq] at h3); first | rfl | (simp [h1, h3]; done) | (simp_all; done))), rfl, rfl, _, _, rfl, Int.fmod_nonneg_of_pos _ (by decide), Int.fmod_lt_of_pos _ (by decide)⟩)
      | (rintro u _ _ h3 tk3 hDD1 F3 N3
         walk_at "norm"
         obtain ⟨rfl, rfl, z, tz, hz, hz0, hz1⟩ := hDD1
         rw [one_frame2 _ _ hz] at F3
         clear F4 N4
         (repeat' (first | ((fail_if_success (with_reducible (first | refine tW ?_ | refine tI ?_ | refine tF ?_ | refine tC ?_ | refine tR 475 ?_ | refine tR 482 ?_ | refine tR 489 ?_ | refine tR 496 ?_ | refine tR 503 ?_ | refine tR 510 ?_))); first | ((with_reducible show WhileStep2 _ _ _ _ _ _ (Flow.ret _) _); dsimp only [WhileStep2]) | ((with_reducible show TurnP _ _ _ _ _ _ _ _ _ (Flow.ret _) _); dsimp only [TurnP]) | (k_unfold; (try dsimp only)) | (k_end; first | refine' next_q (by with_reducible assumption) ?_ | refine' ret_q (by with_reducible assumption) ?_ | refine' brk_q (by with_reducible assumption) ?_ | refine' cont_q (by with_reducible assumption) ?_) | (k_end; wrow_close) | walk1 | (dsimp only; walk1) | (leave1; walk_say "STEP leave1"; try dsimp only)) | fail "no step"))
         all_goals exact hret rfl _ _ _ _ _ _ _ _ (by assumption) (nsub (by assumption) (fun p hp => by simpa using hp)) (fun p hp => (by assumption : ∀ q ∈ _, (q : Addr × Obj).1 < _) p (List.mem_append_left _ hp))))

end
section
theorem sz1 : PySem.Str.length (PySem.Str.ofString "") ≤ sizeLine := by rw [sizeLine_eq]; decide +kernel
local macro_rules | `(tactic| size_fits) => `(tactic| with_reducible exact sz1)
section
variable {prog : Program} {w : World} {A : Around} {E : Value → Shared → Prop} {s : Shared} {a : Addr} {its : Array Value} {n : Nat}
theorem lk_list_keys : typeLookup (.type "list") "keys" = pure none := by rw [typeLookup_type, builtinLookup_eq_fast]; kernel_rfl
theorem keys_none {Q : Option Value → Shared → Prop} (hx : s.heap.get? a = some (W.listOf its n)) (hA : A.handled = none) (h : ∀ h' tk, (∀ b ob, s.heap.get? b = some ob → h'.get? b = some ob) → Q none { s with heap := h', toks := tk }) :
    wpAny (model prog w) A (getAttr? (.ref a) (Str.ofString "keys")) Q E s := by
  obtain ⟨hp, g, d, tk, os⟩ := s
  have hT : ∀ tk', (⟨hp, g, d, tk', os⟩ : Shared).TypeIs (.ref a) "list" := fun _ => ⟨_, hx, rfl⟩
  have f1 := sub_AttributeError
  have f3 := PySem.F.slot_list_getattribute.lookup
  have f4 := PySem.F.slot_list_getattribute.bind (.ref a)
  have f5 := am_list_getattr_none
  unfold getAttr? getAttrBy? getAttrBy
  repeat (any_goals (first | assumption | exact hT _ | ((with_reducible show wpAny _ _ (call (Value.builtin "list.__getattribute__") _ _) _ _ _); refine call_meets PySem.F.slot_list_getattribute (hT _) am_entry_list_getattribute (PySem.F.args_list_getattribute_2 _ _) (meets_getattribute_miss_list a its n #[] (Str.ofString "keys") _ lk_list_keys (by decide +kernel) (by rw [sizeLine_eq]; decide +kernel)) ⟨hx, hA, fun h' tk' e hx' => ?_⟩) | wp_step))
  obtain ⟨t', u', he⟩ := hx'.there
  show wpAny _ _ (getattributeRaised _ _ _ _ _ _ _) _ _ _
  unfold getattributeRaised
  repeat (any_goals (first | assumption | wp_step))
  exact h _ _ hx'.keeps
end
theorem plain_update_loop : plainId "dict.update.loop" = true := by decide +kernel
theorem entry_update_loop : entryFor table "dict.update.loop" = some Builtin.«dict.update.loop» := entryFor_of_fast (by kernel_rfl)
section
variable {prog : Program} {w : World} {A : Around} {R : PySem.Result → Shared → Prop}
noncomputable def PairAt (h : Heap) (v : Value) (kv : Str × Value) : Prop := ∃ p t n, v = .ref p ∧ h.get? p = some (tupO [.str kv.1 t, kv.2] n)
theorem row_cons_drop {α : Type} {l : List α} {i : Nat} {x : α} (h : l[i]? = some x) : x :: l.drop (i + 1) = l.drop i := by
  obtain ⟨hk, rfl⟩ := List.getElem?_eq_some_iff.mp h
  exact (List.drop_eq_getElem_cons hk).symm
theorem pair_items {A : Around} {E : Value → Shared → Prop} {s : Shared} {p : Addr} {vs : List Value} {n : Nat} {Q : List Value → Shared → Prop} (hp : s.heap.get? p = some (tupO vs n)) (h : Q vs s) : wpAny (model prog w) A (Builtin.Dict.pairItems (.ref p)) Q E s := by
  unfold Builtin.Dict.pairItems
  refine wpAny_bind (wpAny_typeOf (T := "tuple") ⟨_, hp, rfl⟩ ?_)
  rw [if_pos (by decide)]
  refine wpAny_bind (wpAny_seqItems hp rfl ?_)
  refine wpAny_pure ?_
  simpa using h
theorem pairs_step {s : Shared} {d I l : Addr} {i : Nat} {its : Array Value} {v : Value} {kv : Str × Value} {acc : List (Str × Value)} (hit : s.heap.IsListIter I l i) (hl : s.heap.IsList l its) (hx : its[i]? = some v) (hp : PairAt s.heap v kv) (hd : s.heap.DictOf (PySem.strKind prog w) d acc) (hz : acc.length ≤ sizeLine)
    (_nI : I ≠ l) (ndI : d ≠ I) (_ndl : d ≠ l) (hpI : v ≠ .ref I)
    (h : ∀ h' tk, h'.IsListIter I l (i + 1) → h'.DictOf (PySem.strKind prog w) d (stored acc kv.1 kv.2) → (∀ b o, b ≠ d → b ≠ I → s.heap.get? b = some o → h'.get? b = some o) →
      codeAny (model prog w) A (.builtin "dict.update.loop" ⟨[.ref d, .ref I, rawInt ((i : Int) + 1), .none], []⟩) R { s with heap := h', toks := tk }) :
    codeAny (model prog w) A (.builtin "dict.update.loop" ⟨[.ref d, .ref I, rawInt (i : Int), .none], []⟩) R s := by
  refine codeAny_builtin entry_update_loop ?_
  rw [Around.under_plainId plain_update_loop _]
  show wpAny _ A.in1 (pyNext (.ref I) >>= _) _ _ s
  refine wpAny_bind (wpAny_pyNext_list_item hit hl hx fun h1 hit1 hs1 => ?_)
  dsimp only
  obtain ⟨p, t, n, rfl, hp⟩ := hp
  have hpI' : p ≠ I := fun e => hpI (by rw [e])
  have hp1 : h1.get? p = some (tupO [.str kv.1 t, kv.2] n) := hs1.extBut _ _ hpI' hp
  refine wpAny_bind (wpAny_holding ?_)
  have hd1 : h1.DictOf (PySem.strKind prog w) d acc := by
    obtain ⟨o, es, ep, ho, r⟩ := hd
    exact ⟨o, es, ep, hs1.extBut _ _ ndI ho, r⟩
  obtain ⟨hp0, g, dr, tk, os⟩ := s
  have hT : (⟨h1, g, dr, tk, os⟩ : Shared).TypeIs (.ref p) "tuple" := ⟨_, hp1, rfl⟩
  refine wpAny_bind ?_
  refine wpAny_tryCatch (pair_items hp1 ?_)
  dsimp only
  refine wpAny_holding ?_
  refine wpAny_dictSet_pairs (strKind_is prog w kv.1 t) hd1 (fun h2 hd2 hs2 => ?_) hz
  refine wpAny_pure ?_
  have hit2 : h2.IsListIter I l (i + 1) := by
    obtain ⟨o, ho, r⟩ := hit1
    exact ⟨o, (hs2.extBut _ _ (Ne.symm ndI) ho), r⟩
  refine ⟨plainId_quiet plain_update_loop _, h h2 _ hit2 hd2 fun b o hbd hbI hb => hs2.extBut _ _ hbd (hs1.extBut _ _ hbI hb)⟩
theorem pairs_loop {d I l : Addr} {vs : List Value} {kvs : List (Str × Value)} (hlen : vs.length = kvs.length) (hA : A.handled = none) (nI : I ≠ l) (ndI : d ≠ I) (ndl : d ≠ l) (hz : kvs.length ≤ 100) :
    ∀ (k i : Nat) (s : Shared) (acc : List (Str × Value)), vs.length - i = k → i ≤ vs.length → acc.length ≤ i → s.heap.IsListIter I l i → s.heap.IsList l vs.toArray → (∀ (j : Nat) (v : Value) (kv : Str × Value), vs[j]? = some v → kvs[j]? = some kv → PairAt s.heap v kv ∧ v ≠ .ref I ∧ v ≠ .ref d) → s.heap.DictOf (PySem.strKind prog w) d acc →
    (∀ h' tk, h'.DictOf (PySem.strKind prog w) d ((kvs.drop i).foldl (fun a kv => stored a kv.1 kv.2) acc) → (∀ b o, b ≠ d → b ≠ I → s.heap.get? b = some o → h'.get? b = some o) → R (.ok (.ret .none)) { s with heap := h', toks := tk }) →
    codeAny (model prog w) A (.builtin "dict.update.loop" ⟨[.ref d, .ref I, rawInt (i : Int), .none], []⟩) R s := by
  intro k
  induction k with
  | zero =>
    intro i s acc hk hi hacc hit hl hp hd h
    have hin : i = vs.length := by omega
    refine codeAny_builtin entry_update_loop ?_
    rw [Around.under_plainId plain_update_loop _]
    show wpAny _ A.in1 (pyNext (.ref I) >>= _) _ _ s
    refine wpAny_bind (wpAny_pyNext_list_end (by exact hA) hit hl (by simp [hin]) fun h1 hs1 => ?_)
    show wpAny _ _ (Builtin.Dict.addKeywords d [] >>= _) _ _ _
    refine wpAny_bind (wpAny_pure (wpAny_pure ?_))
    have hd1 : h1.DictOf (PySem.strKind prog w) d acc := by
      obtain ⟨o, es, ep, ho, r⟩ := hd
      exact ⟨o, es, ep, hs1 _ _ ndI ho, r⟩
    exact h h1 s.toks (by rw [hin, hlen, List.drop_length]; exact hd1) fun b o _ hbI hb => hs1 _ _ hbI hb
  | succ k ih =>
    intro i s acc hk hi hacc hit hl hp hd h
    have hlt : i < vs.length := by omega
    obtain ⟨v, hv⟩ : ∃ v, vs[i]? = some v := ⟨_, List.getElem?_eq_getElem hlt⟩
    obtain ⟨kv, hkv⟩ : ∃ kv, kvs[i]? = some kv := ⟨_, List.getElem?_eq_getElem (by omega)⟩
    obtain ⟨hpv, hvI, hvd⟩ := hp i v kv hv hkv
    refine pairs_step hit hl (by simpa using hv) hpv hd (by rw [sizeLine_eq]; omega) nI ndI ndl hvI fun h1 tk1 hit1 hd1 hs1 => ?_
    have := ih (i + 1) { s with heap := h1, toks := tk1 } (stored acc kv.1 kv.2) (by omega) hlt (Nat.le_trans (stored_length_le _ _ _) (by omega)) hit1
      (by obtain ⟨o, ho, r⟩ := hl; exact ⟨o, hs1 _ _ (Ne.symm ndl) (Ne.symm nI) ho, r⟩)
      (fun j v kv hj hkj => by
        obtain ⟨⟨p, t, n, rfl, hpp⟩, h1', h2'⟩ := hp j v kv hj hkj
        exact ⟨⟨p, t, n, rfl, hs1 _ _ (fun e => h2' (by rw [e])) (fun e => h1' (by rw [e])) hpp⟩, h1', h2'⟩) hd1 (fun h2 tk2 hd2 hs2 => ?_)
    · rw [show ((i : Int) + 1) = ((i + 1 : Nat) : Int) by omega]
      exact this
    · refine h h2 tk2 ?_ fun b o hbd hbI hb => hs2 _ _ hbd hbI (hs1 _ _ hbd hbI hb)
      rw [← row_cons_drop hkv]
      exact hd2
end
section
variable {prog : Program} {w : World} {A : Around} {E : Value → Shared → Prop} {s : Shared}
theorem call_dict_pairs {l : Addr} {vs : List Value} {n : Nat} {kvs : List (Str × Value)} {Q : Value → Shared → Prop} (hA : A.handled = none) (hl : s.heap.get? l = some (W.listOf vs.toArray n)) (hlen : vs.length = kvs.length) (hz : kvs.length ≤ 100)
    (hp : ∀ (j : Nat) (v : Value) (kv : Str × Value), vs[j]? = some v → kvs[j]? = some kv → PairAt s.heap v kv)
    (h : ∀ h' tk, h'.DictOf (PySem.strKind prog w) s.heap.objs.size (kvs.foldl (fun a kv => stored a kv.1 kv.2) []) → (∀ b o, s.heap.get? b = some o → h'.get? b = some o) → Q (.ref s.heap.objs.size) { s with heap := h', toks := tk }) :
    wpAny (model prog w) A (call (.type "dict") [.ref l]) Q E s := by
  refine callType_codes (Q₁ := fun obj s₁ => obj = .ref s.heap.objs.size ∧ s₁ = { s with heap := s.heap.push { cls := .type "dict", data := .dict #[] } }) PySem.F.kt_called_dict (PySem.F.kt_typeCall_dict_1 _) PySem.F.entry_dict_init (kt_code_dict_new _ ⟨rfl, rfl⟩) ?_
  rintro obj s₁ ⟨rfl, rfl⟩
  have hnew : (s.heap.push { cls := .type "dict", data := .dict #[] }).DictOf (PySem.strKind prog w) s.heap.objs.size [] := Heap.DictOf.new s.heap
  have hl' : (s.heap.push { cls := .type "dict", data := .dict #[] }).get? l = some (W.listOf vs.toArray n) := Heap.get?_push_of_some _ hl
  refine ⟨hnew.typeIs, PySem.F.args_dict_init_2 _ _, ?_⟩
  unfold Builtin.«dict.__init__»
  refine wpAny_bind ?_
  unfold Builtin.Dict.selfAndRest
  refine wpAny_bind (wpAny_notOrdered_dict hnew.typeIs ?_)
  show wpAny _ _ (pure (s.heap.objs.size, [Value.ref l])) _ _ _
  refine wpAny_pure ?_
  show wpAny _ _ (Builtin.Dict.updateFrom "dict.__init__" s.heap.objs.size (.ref l) [] .none) _ _ _
  unfold Builtin.Dict.updateFrom
  refine wpAny_bind (wpAny_typeOf (T := "list") ⟨_, hl', rfl⟩ ?_)
  rw [if_pos (by decide)]
  refine wpAny_bind (keys_none hl' (by exact hA) fun h1 tk1 k1 => ?_)
  simp only [Option.isNone_none, if_true]
  refine wpAny_bind (wpAny_rule ?_)
  have hl1 : h1.IsList l vs.toArray := ⟨_, k1 _ _ hl', rfl, n, rfl⟩
  have hd1 : h1.DictOf (PySem.strKind prog w) s.heap.objs.size [] := by
    obtain ⟨o, es, ep, ho, r⟩ := hnew
    exact ⟨o, es, ep, k1 _ _ ho, r⟩
  have ld : s.heap.objs.size < h1.objs.size := by obtain ⟨o, es, ep, ho, r⟩ := hd1; exact Heap.lt_size ho
  have ll : l < s.heap.objs.size := Heap.lt_size hl
  refine wpAny_bind (wpAny_pyIter_list hl1 ?_)
  refine wpAny_pure ⟨plainId_quiet plain_update_loop _, ?_⟩
  show codeAny _ _ (.builtin "dict.update.loop" ⟨[.ref s.heap.objs.size, .ref h1.objs.size, rawInt ((0 : Nat) : Int), .none], []⟩) _ _
  refine pairs_loop (A := A.in1) (kvs := kvs) hlen (by exact hA) (Nat.ne_of_gt (Nat.lt_trans ll ld)) (Nat.ne_of_lt ld) (Nat.ne_of_gt ll) hz (vs.length - 0) 0 _ [] rfl (Nat.zero_le _) (Nat.zero_le _) ⟨_, Heap.get?_push_size _ rfl, rfl, rfl⟩ (hl1.push _) ?_ ?_ fun h2 tk2 hd2 k2 => ?_
  · intro j v kv hj hkj
    obtain ⟨p, t, m, rfl, hpp⟩ := hp j v kv hj hkj
    have lp : p < s.heap.objs.size := Heap.lt_size hpp
    exact ⟨⟨p, t, m, rfl, Heap.get?_push_of_some _ (k1 _ _ (Heap.get?_push_of_some _ hpp))⟩, fun e => absurd (Value.ref.inj e) (Nat.ne_of_lt (Nat.lt_trans lp ld)), fun e => absurd (Value.ref.inj e) (Nat.ne_of_lt lp)⟩
  · obtain ⟨o, es, ep, ho, r⟩ := hd1
    exact ⟨o, es, ep, Heap.get?_push_of_some _ ho, r⟩
  · refine ⟨rfl, h h2 tk2 (by simpa using hd2) fun b o hb => ?_⟩
    have lb : b < s.heap.objs.size := Heap.lt_size hb
    exact k2 b o (Nat.ne_of_lt lb) (Nat.ne_of_lt (Nat.lt_trans lb ld)) (Heap.get?_push_of_some _ (k1 _ _ (Heap.get?_push_of_some _ hb)))
end

end
section
-- ## a comprehension over a text
section
variable {prog : Program} {w : World} {A : Around} {E : Value → Shared → Prop} {s : Shared} {h₀ : Heap} {L : Addr} {m : Str → Option Value} {env : Env}
theorem ListComp_S {elt iter : PySem.Expr} {x : Str} {px : Pos} {scope : Scope} {cl : List (Str × Addr)} {pos : Pos} {Q : Value → Shared → Prop} (_F₀ : Fr h₀ L s.heap m)
    (hclos : closureFor scope env = pure cl) (hcell : ∀ y ∈ scope.names, y.2 ≠ .cell) (hkind : scope.kind = .function)
    (hnames : ∀ y ∈ scope.names, y.2 = .local → scope.names.lookup y.1 = some .local) (hx : scope.names.lookup x = some .local)
    (h : wpAny (model prog w) A (eval iter env) (fun xv s₁ => ∃ y t news, xv = .str y t ∧ y.cps.all (· < 128) = true ∧ A.handled = none ∧ Fr h₀ L s₁.heap m ∧ News h₀ L s₁.heap news ∧ y.cps.size ≤ sizeLine ∧
      ∀ s₂ : Shared, (∃ h, s₂ = { s₁ with heap := h }) → LCg.CompRest prog w A h₀ L m env elt x scope cl s₂ (fun _ => True) (SignAt y) (LCg.FinE h₀ L m s₂ Q) y.cps.size 0 [] news) E s)
    (hs : ∀ x, foldedSetIterable iter env x = pure x := by intro _; rfl) :
    wpAny (model prog w) A (eval (.ListComp elt [⟨.Name x px, iter, [], 0⟩] scope pos) env) Q E s := by
  rw [eval_ListComp]
  refine wpAny_comprehension_free (use := none) rfl hs hclos hkind hnames (wpAny_mono h (fun xv s₁ h₁ => ?_) fun _ _ e => e)
  obtain ⟨y, t, news, rfl, hy, hh, F, N, hsz, R⟩ := h₁
  refine wpAny_pyIter_ascii hy ?_
  refine LCg.block_U (Walks.strAscii hh _ y t) hsz (fun i h st => by obtain ⟨o, e, _⟩ := st; exact ⟨o, e⟩) (fun i h h' o nw st e e' _ _ _ => by
      obtain ⟨o', ho', r⟩ := st
      rw [ho'] at e
      cases e
      exact ⟨_, e', r⟩) hcell hkind hx ⟨_, Heap.get?_push_size _ rfl, rfl, rfl⟩ (fun b hb => ?_)
    (F.keeps fun _ _ e => Heap.get?_push_of_some _ e) (N.grown fun _ _ e => Heap.get?_push_of_some _ e) (Nat.ne_of_lt F.ns.lt) (next_is_new F) (fun p hp => Nat.ne_of_lt (Heap.lt_size (N p hp).1)) trivial (R _ ⟨_, rfl⟩) ?_
  · rw [List.mem_singleton.mp hb]
    show s₁.heap.objs.size < (s₁.heap.push _).objs.size
    rw [Heap.size_push]; exact Nat.lt_succ_self _
  · intro D C h tk m' ys news' F' N' o1 hn hC₀ hD₀ hCL hDL hCD offC fin
    refine ⟨m', hn, fun h'' hs'' => fin D h'' tk (F'.change hs'' hCL hC₀) (fun p hp => ?_) o1⟩
    refine ⟨hs''.extBut _ _ ?_ (N' p hp).1, (N' p hp).2⟩
    rcases List.mem_cons.mp hp with rfl | hp
    · exact Ne.symm hCD
    · exact offC p hp
end

end
section
theorem signed_spec (w : World) : SignedS w := by
  unfold SignedS Spec
  k_fill
  rintro mean mg mb dp un gd cn cs a ccd cl outer A₀ base h₀ L m M P s vs ⟨T, x, t⟩ Q E B F X N TT hk hDD1 hd hu hret
  refine el3 hDD1 ?_
  clear hDD1
  rintro tv tk v ⟨rfl, hT, ht⟩
  refine wpAny_call ?_
  k_dflt ktr_enter
  dsimp only at hT ht
  w_strict (
    walk_at "norm"
    (rename Fr _ _ _ _ => F1)
    (replace F1 := fr_lk [(Str.ofString "right", v), (Str.ofString "name", .str x.str tk), (Str.ofString "table", tv)] F1)
    (dsimp only [lkm] at F1)
    (repeat' (first | ((fail_if_success (with_reducible (first | refine tW ?_ | refine tI ?_ | refine tF ?_ | refine tC ?_ | refine tR 475 ?_ | refine tR 482 ?_ | refine tR 489 ?_ | refine tR 496 ?_ | refine tR 503 ?_ | refine tR 510 ?_))); first | ((with_reducible show WhileStep2 _ _ _ _ _ _ (Flow.ret _) _); dsimp only [WhileStep2]) | ((with_reducible show TurnP _ _ _ _ _ _ _ _ _ (Flow.ret _) _); dsimp only [TurnP]) | (k_unfold; (try dsimp only)) | (k_end; first | refine' next_q (by with_reducible assumption) ?_ | refine' ret_q (by with_reducible assumption) ?_ | refine' brk_q (by with_reducible assumption) ?_ | refine' cont_q (by with_reducible assumption) ?_) | (k_end; wrow_close) | walk1 | (dsimp only; walk1) | (leave1; walk_say "STEP leave1"; try dsimp only)) | fail "no step"))
    (rename Fr _ _ _ _ => F1)
    (rename News _ _ _ _ => N1)
    refine While_inv2 (fun n m nx => ∃ t' v', n = t'.size ∧ m = (fun y => if y = Str.ofString "right" then some v' else if y = Str.ofString "name" then some (.str x.str tk) else if y = Str.ofString "table" then some tv else none) ∧ nx = M ++ P ∧ TrIn P v' t' ∧ signedV T x t' = signedV T x t) F1 N1 ⟨t, v, rfl, rfl, rfl, ht, rfl⟩ ?_
    · rintro n m₁ nx h₁ tk₁ F₁ N₁ hDD1
      walk_at "norm"
      obtain ⟨t', v', rfl, rfl, rfl, ht', hs⟩ := hDD1
      clear F1 N1
      cases ht'
      · (repeat' (first | ((fail_if_success (with_reducible (first | refine tW ?_ | refine tI ?_ | refine tF ?_ | refine tC ?_ | refine tR 475 ?_ | refine tR 482 ?_ | refine tR 489 ?_ | refine tR 496 ?_ | refine tR 503 ?_ | refine tR 510 ?_))); first | ((with_reducible show WhileStep2 _ _ _ _ _ _ (Flow.ret _) _); dsimp only [WhileStep2]) | ((with_reducible show TurnP _ _ _ _ _ _ _ _ _ (Flow.ret _) _); dsimp only [TurnP]) | (k_unfold; (try dsimp only)) | (k_end; first | refine' next_q (by with_reducible assumption) ?_ | refine' ret_q (by with_reducible assumption) ?_ | refine' brk_q (by with_reducible assumption) ?_ | refine' cont_q (by with_reducible assumption) ?_) | (k_end; wrow_close) | walk1 | (dsimp only; walk1) | (leave1; walk_say "STEP leave1"; try dsimp only)) | fail "no step"))
        refine hret _ P _ _ (by assumption) (by assumption) (fun _ h => h) (fun _ h => .inl h) ?_
        dsimp only; rw [← hs]; rfl
      · (repeat' (first | ((fail_if_success (with_reducible (first | refine tW ?_ | refine tI ?_ | refine tF ?_ | refine tC ?_ | refine tR 475 ?_ | refine tR 482 ?_ | refine tR 489 ?_ | refine tR 496 ?_ | refine tR 503 ?_ | refine tR 510 ?_))); first | ((with_reducible show WhileStep2 _ _ _ _ _ _ (Flow.ret _) _); dsimp only [WhileStep2]) | ((with_reducible show TurnP _ _ _ _ _ _ _ _ _ (Flow.ret _) _); dsimp only [TurnP]) | (k_unfold; (try dsimp only)) | (k_end; first | refine' next_q (by with_reducible assumption) ?_ | refine' ret_q (by with_reducible assumption) ?_ | refine' brk_q (by with_reducible assumption) ?_ | refine' cont_q (by with_reducible assumption) ?_) | (k_end; wrow_close) | walk1 | (dsimp only; walk1) | (leave1; walk_say "STEP leave1"; try dsimp only)) | fail "no step"))
        refine hret _ P _ _ (by assumption) (by assumption) (fun _ h => h) (fun _ h => .inl h) ?_
        dsimp only; rw [← hs]
        show Value.bool (decide (((T.get x).lv : Int) < 6)) = Value.bool (decide ((T.get x).lv < 6))
        congr 1
        exact decide_eq_decide.mpr (by omega)
      · (repeat' (first | ((fail_if_success (with_reducible (first | refine tW ?_ | refine tI ?_ | refine tF ?_ | refine tC ?_ | refine tR 475 ?_ | refine tR 482 ?_ | refine tR 489 ?_ | refine tR 496 ?_ | refine tR 503 ?_ | refine tR 510 ?_))); first | ((with_reducible show WhileStep2 _ _ _ _ _ _ (Flow.ret _) _); dsimp only [WhileStep2]) | ((with_reducible show TurnP _ _ _ _ _ _ _ _ _ (Flow.ret _) _); dsimp only [TurnP]) | (k_unfold; (try dsimp only)) | (k_end; first | refine' next_q (by with_reducible assumption) ?_ | refine' ret_q (by with_reducible assumption) ?_ | refine' brk_q (by with_reducible assumption) ?_ | refine' cont_q (by with_reducible assumption) ?_) | (k_end; wrow_close) | walk1 | (dsimp only; walk1) | (leave1; walk_say "STEP leave1"; try dsimp only)) | fail "no step"))
        refine ex5 _ _ _ _ _ ⟨rfl, by assumption, by assumption, ?_, ex2 _ _ ⟨rfl, set_twice _ _ _ _, rfl, by assumption, ?_⟩⟩
        · simp only [Tr.size]; omega
        · exact hs)

end
section
theorem edges_spec (w : World) : EdgesS w := by
  unfold EdgesS Spec
  k_fill
  rintro mean mg mb dp un gd cn cs a ccd cl outer A₀ base h₀ L m M P s vs ⟨t, b⟩ Q E B F X N TT hk hDD1 hd hu hret
  obtain ⟨v, tkS, rfl, ht, hz⟩ := hDD1
  refine wpAny_call ?_
  k_dflt ktr_enter
  dsimp only at ht hz
  w_strict (
    walk_at "norm"
    (rename Fr _ _ _ _ => F1)
    (replace F1 := fr_lk [(Str.ofString "side", .int (if b then 1 else 0) tkS), (Str.ofString "tree", v)] F1)
    (dsimp only [lkm] at F1)
    (repeat' (first | ((fail_if_success (with_reducible (first | refine tW ?_ | refine tI ?_ | refine tF ?_ | refine tC ?_ | refine tR 475 ?_ | refine tR 482 ?_ | refine tR 489 ?_ | refine tR 496 ?_ | refine tR 503 ?_ | refine tR 510 ?_))); first | ((with_reducible show WhileStep2 _ _ _ _ _ _ (Flow.ret _) _); dsimp only [WhileStep2]) | ((with_reducible show TurnP _ _ _ _ _ _ _ _ _ (Flow.ret _) _); dsimp only [TurnP]) | (k_unfold; (try dsimp only)) | (k_end; first | refine' next_q (by with_reducible assumption) ?_ | refine' ret_q (by with_reducible assumption) ?_ | refine' brk_q (by with_reducible assumption) ?_ | refine' cont_q (by with_reducible assumption) ?_) | (k_end; wrow_close) | walk1 | (dsimp only; walk1) | (leave1; walk_say "STEP leave1"; try dsimp only)) | fail "no step"))
    (rename Fr _ _ _ _ => F1)
    (rename News _ _ _ _ => N1)
    rename_i l hh1 l1 hh2
    refine While_inv2 (fun n m nx => ∃ t' v' ws k acc, n = t'.size ∧ m = (fun y => if y = Str.ofString "tree" then some v' else if y = Str.ofString "found" then some (.ref l) else if y = Str.ofString "side" then some (.int (if b then 1 else 0) tkS) else if y = Str.ofString "tree" then some v else none) ∧ nx = (l, listOf ws.toArray k) :: (M ++ P) ∧ TrIn P v' t' ∧ NmsAre ws acc ∧ acc ++ edges t' b = edges t b) F1 N1 ⟨t, v, [], 0, [], rfl, set_same _ _ _ rfl, rfl, ht, .nil, rfl⟩ ?_
    · rintro n m₁ nx h₁ tkS₁ F₁ N₁ hDD1
      walk_at "norm"
      refine el5 hDD1 ?_
      clear hDD1
      rintro t' v' ws k acc ⟨rfl, rfl, rfl, ht', hw, hs⟩
      clear F1 N1
      have hsz : ws.toArray.size ≤ sizeLine := size_ok (n := 100) (by have h1 := hw.length; have h2 := edges_len t b; rw [← hs, List.length_append] at h2; omega) (by omega)
      cases ht'
      · (repeat' (first | ((fail_if_success (with_reducible (first | refine tW ?_ | refine tI ?_ | refine tF ?_ | refine tC ?_ | refine tR 475 ?_ | refine tR 482 ?_ | refine tR 489 ?_ | refine tR 496 ?_ | refine tR 503 ?_ | refine tR 510 ?_))); first | ((with_reducible show WhileStep2 _ _ _ _ _ _ (Flow.ret _) _); dsimp only [WhileStep2]) | ((with_reducible show TurnP _ _ _ _ _ _ _ _ _ (Flow.ret _) _); dsimp only [TurnP]) | (k_unfold; (try dsimp only)) | (k_end; first | refine' next_q (by with_reducible assumption) ?_ | refine' ret_q (by with_reducible assumption) ?_ | refine' brk_q (by with_reducible assumption) ?_ | refine' cont_q (by with_reducible assumption) ?_) | (k_end; wrow_close) | walk1 | (dsimp only; walk1) | (leave1; walk_say "STEP leave1"; try dsimp only)) | fail "no step"))
        refine hret _ _ _ _ (by assumption) (nsub (by assumption) mv1) sub1 (fr1 l1) ⟨l, ws, k, rfl, .head _, ?_⟩
        dsimp only
        have := hs; simp only [edges, List.append_nil] at this
        rw [← this]; exact hw
      · cases b
        · (repeat' (first | ((fail_if_success (with_reducible (first | refine tW ?_ | refine tI ?_ | refine tF ?_ | refine tC ?_ | refine tR 475 ?_ | refine tR 482 ?_ | refine tR 489 ?_ | refine tR 496 ?_ | refine tR 503 ?_ | refine tR 510 ?_))); first | ((with_reducible show WhileStep2 _ _ _ _ _ _ (Flow.ret _) _); dsimp only [WhileStep2]) | ((with_reducible show TurnP _ _ _ _ _ _ _ _ _ (Flow.ret _) _); dsimp only [TurnP]) | (k_unfold; (try dsimp only)) | (k_end; first | refine' next_q (by with_reducible assumption) ?_ | refine' ret_q (by with_reducible assumption) ?_ | refine' brk_q (by with_reducible assumption) ?_ | refine' cont_q (by with_reducible assumption) ?_) | (k_end; wrow_close) | walk1 | (dsimp only; walk1) | (leave1; walk_say "STEP leave1"; try dsimp only)) | fail "no step"))
          refine hret _ _ _ _ (by assumption) (nsub (by assumption) mv1) sub1 (fr1 l1) ⟨l, ws, k, rfl, .head _, ?_⟩
          dsimp only
          have := hs; simp only [edges, List.append_nil] at this
          rw [← this]; exact hw
        · (repeat' (first | ((fail_if_success (with_reducible (first | refine tW ?_ | refine tI ?_ | refine tF ?_ | refine tC ?_ | refine tR 475 ?_ | refine tR 482 ?_ | refine tR 489 ?_ | refine tR 496 ?_ | refine tR 503 ?_ | refine tR 510 ?_))); first | ((with_reducible show WhileStep2 _ _ _ _ _ _ (Flow.ret _) _); dsimp only [WhileStep2]) | ((with_reducible show TurnP _ _ _ _ _ _ _ _ _ (Flow.ret _) _); dsimp only [TurnP]) | (k_unfold; (try dsimp only)) | (k_end; first | refine' next_q (by with_reducible assumption) ?_ | refine' ret_q (by with_reducible assumption) ?_ | refine' brk_q (by with_reducible assumption) ?_ | refine' cont_q (by with_reducible assumption) ?_) | (k_end; wrow_close) | walk1 | (dsimp only; walk1) | (leave1; walk_say "STEP leave1"; try dsimp only)) | fail "no step"))
          refine ex5 _ _ _ _ _ ⟨rfl, by assumption, by assumption, ?_, ex5 _ _ (ws ++ [.str Nm.mi.str _]) (k + 1) (acc ++ [.mi]) ⟨rfl, set_twice _ _ _ _, rfl, by assumption, hw.snoc, by rw [← hs]; simp [edges]⟩⟩
          simp only [Tr.size]; omega
      · cases b
        · (repeat' (first | ((fail_if_success (with_reducible (first | refine tW ?_ | refine tI ?_ | refine tF ?_ | refine tC ?_ | refine tR 475 ?_ | refine tR 482 ?_ | refine tR 489 ?_ | refine tR 496 ?_ | refine tR 503 ?_ | refine tR 510 ?_))); first | ((with_reducible show WhileStep2 _ _ _ _ _ _ (Flow.ret _) _); dsimp only [WhileStep2]) | ((with_reducible show TurnP _ _ _ _ _ _ _ _ _ (Flow.ret _) _); dsimp only [TurnP]) | (k_unfold; (try dsimp only)) | (k_end; first | refine' next_q (by with_reducible assumption) ?_ | refine' ret_q (by with_reducible assumption) ?_ | refine' brk_q (by with_reducible assumption) ?_ | refine' cont_q (by with_reducible assumption) ?_) | (k_end; wrow_close) | walk1 | (dsimp only; walk1) | (leave1; walk_say "STEP leave1"; try dsimp only)) | fail "no step"))
          (rename News _ _ _ _ => N9)
          (try rw [List.push_toArray] at N9)
          refine ex5 _ _ _ _ _ ⟨rfl, by assumption, by assumption, ?_, ex5 _ _ (ws ++ [.str (Nm.str _) _]) (k + 1) (acc ++ [_]) ⟨rfl, set_twice _ _ _ _, rfl, by assumption, hw.snoc, by rw [← hs]; simp [edges]⟩⟩
          simp only [Tr.size]; omega
        · (repeat' (first | ((fail_if_success (with_reducible (first | refine tW ?_ | refine tI ?_ | refine tF ?_ | refine tC ?_ | refine tR 475 ?_ | refine tR 482 ?_ | refine tR 489 ?_ | refine tR 496 ?_ | refine tR 503 ?_ | refine tR 510 ?_))); first | ((with_reducible show WhileStep2 _ _ _ _ _ _ (Flow.ret _) _); dsimp only [WhileStep2]) | ((with_reducible show TurnP _ _ _ _ _ _ _ _ _ (Flow.ret _) _); dsimp only [TurnP]) | (k_unfold; (try dsimp only)) | (k_end; first | refine' next_q (by with_reducible assumption) ?_ | refine' ret_q (by with_reducible assumption) ?_ | refine' brk_q (by with_reducible assumption) ?_ | refine' cont_q (by with_reducible assumption) ?_) | (k_end; wrow_close) | walk1 | (dsimp only; walk1) | (leave1; walk_say "STEP leave1"; try dsimp only)) | fail "no step"))
          (rename News _ _ _ _ => N9)
          (try rw [List.push_toArray] at N9)
          refine ex5 _ _ _ _ _ ⟨rfl, by assumption, by assumption, ?_, ex5 _ _ (ws ++ [.str (Nm.str _) _]) (k + 1) (acc ++ [_]) ⟨rfl, set_twice _ _ _ _, rfl, by assumption, hw.snoc, by rw [← hs]; simp [edges]⟩⟩
          simp only [Tr.size]; omega)

end
section
theorem beside_spec (w : World) (hEd : EdgesS w) : BesideS w := by
  unfold BesideS Spec
  k_fill
  rintro mean mg mb dp un gd cn cs a ccd cl outer A₀ base h₀ L m M P s vs ⟨T, x, t, b⟩ Q E B F X N TT hk hDD1 hd hu hret
  refine el4 hDD1 ?_
  clear hDD1
  rintro tv v tkS tkN ⟨rfl, hT, ht, hz⟩
  refine wpAny_call ?_
  k_dflt ktr_enter
  dsimp only at hT ht hz
  w_strict (
    walk_at "norm"
    (rename Fr _ _ _ _ => F1)
    (replace F1 := fr_lk [(Str.ofString "side", .int (if b then 1 else 0) tkS), (Str.ofString "tree", v), (Str.ofString "name", .str x.str tkN), (Str.ofString "table", tv)] F1)
    (dsimp only [lkm] at F1)
    (repeat' (first | ((fail_if_success (with_reducible (first | refine tW ?_ | refine tI ?_ | refine tF ?_ | refine tC ?_ | show wpAny _ _ (subscriptTail _ _ _ (Value.int (@ite _ _ _ _ _) _)) _ _ _ | refine tR 475 ?_ | refine tR 482 ?_ | refine tR 489 ?_ | refine tR 496 ?_ | refine tR 503 ?_ | refine tR 510 ?_))); first | ((with_reducible show WhileStep2 _ _ _ _ _ _ (Flow.ret _) _); dsimp only [WhileStep2]) | ((with_reducible show TurnP _ _ _ _ _ _ _ _ _ (Flow.ret _) _); dsimp only [TurnP]) | (k_unfold; (try dsimp only)) | (k_end; first | refine' next_q (by with_reducible assumption) ?_ | refine' ret_q (by with_reducible assumption) ?_ | refine' brk_q (by with_reducible assumption) ?_ | refine' cont_q (by with_reducible assumption) ?_) | (k_end; wrow_close) | walk1 | (dsimp only; walk1) | (leave1; walk_say "STEP leave1"; try dsimp only)) | fail "no step"))
    (rename Fr _ _ _ _ => F1)
    refine For_invVF F1 rfl rfl ?_
    (repeat' (first | ((fail_if_success (with_reducible (first | refine tW ?_ | refine tI ?_ | refine tF ?_ | refine tC ?_ | show wpAny _ _ (subscriptTail _ _ _ (Value.int (@ite _ _ _ _ _) _)) _ _ _ | refine tR 475 ?_ | refine tR 482 ?_ | refine tR 489 ?_ | refine tR 496 ?_ | refine tR 503 ?_ | refine tR 510 ?_))); first | ((with_reducible show WhileStep2 _ _ _ _ _ _ (Flow.ret _) _); dsimp only [WhileStep2]) | ((with_reducible show TurnP _ _ _ _ _ _ _ _ _ (Flow.ret _) _); dsimp only [TurnP]) | (k_unfold; (try dsimp only)) | (k_end; first | refine' next_q (by with_reducible assumption) ?_ | refine' ret_q (by with_reducible assumption) ?_ | refine' brk_q (by with_reducible assumption) ?_ | refine' cont_q (by with_reducible assumption) ?_) | (k_end; wrow_close) | walk1 | (dsimp only; walk1) | (leave1; walk_say "STEP leave1"; try dsimp only)) | fail "no step"))
    (rename Fr _ _ _ _ => F1)
    (rename News _ _ _ _ => N1)
    refine' hEd.use M P (t, !b) (by k_asm) F1 (by k_asm) N1 sub0 (by k_asm) rfl ⟨v, _, by cases b <;> rfl, ht, hz⟩ (by ktr_room) (by ktr_units) ?_
    rintro r P' h' tk' F1 N1 hsub hfr hDD1
    walk_at "norm"
    refine el3 hDD1 ?_
    clear hDD1
    rintro l ws n ⟨rfl, hl, hw⟩
    have hT' := hT.mono hsub
    clear hT hfr
    refine forG [Str.ofString "other_way", Str.ofString "other_level"] (fun i m Mx Px => M = Mx ∧ P' = Px ∧ ((edges t (!b)).take i).all (letV T x b) = true) rfl (fun _ _ _ _ h => h.2.1 ▸ hl) F1 N1 ⟨rfl, rfl, by simp⟩ ?_ ?_
    · rintro i v' u _ _ h tk own hv ho hDD1 F₁ N₁
      walk_at "norm"
      obtain ⟨rfl, rfl, hJ⟩ := hDD1
      clear F1 N1
      obtain ⟨o, t3, rfl, hx⟩ := hw.at hv
      (repeat' (first | ((fail_if_success (with_reducible (first | refine tW ?_ | refine tI ?_ | refine tF ?_ | refine tC ?_ | show wpAny _ _ (subscriptTail _ _ _ (Value.int (@ite _ _ _ _ _) _)) _ _ _ | refine tR 475 ?_ | refine tR 482 ?_ | refine tR 489 ?_ | refine tR 496 ?_ | refine tR 503 ?_ | refine tR 510 ?_))); first | ((with_reducible show WhileStep2 _ _ _ _ _ _ (Flow.ret _) _); dsimp only [WhileStep2]) | ((with_reducible show TurnP _ _ _ _ _ _ _ _ _ (Flow.ret _) _); dsimp only [TurnP]) | (k_unfold; (try dsimp only)) | (k_end; first | refine' next_q (by with_reducible assumption) ?_ | refine' ret_q (by with_reducible assumption) ?_ | refine' brk_q (by with_reducible assumption) ?_ | refine' cont_q (by with_reducible assumption) ?_) | (k_end; wrow_close) | walk1 | (dsimp only; walk1) | (leave1; walk_say "STEP leave1"; try dsimp only)) | fail "no step"))
      · (rename (_ < _) => h1)
        refine hret _ _ _ _ (by assumption) (nsub (by assumption) (by (first | kpc_turns | (intro p hp; (try simp only [List.mem_append, List.mem_cons] at hp); (try simp only [List.mem_append, List.mem_cons]); (repeat' (with_reducible refine Or.elim hp (fun hp => ?_) (fun hp => ?_))); all_goals first | (simp only [hp, true_or, or_true]; done) | ((have hq := (by assumption : ∀ p ∈ _, p ∈ _) p hp); simp only [hq, true_or, or_true]; done) | ((have hq := (by assumption : ∀ p ∈ _, p ∈ _) p hp); (try simp only [List.mem_append, List.mem_cons] at hq); (repeat' (with_reducible refine Or.elim hq (fun hq => ?_) (fun hq => ?_))); all_goals (simp only [hq, true_or, or_true]; done)))))) sub0 fr0 ?_
        · exact congrArg Value.bool (bs_no hx (letV_lt h1)).symm
      · cases b
        · show wpAny _ _ (subscriptTail _ _ _ (Value.int 0 _)) _ _ _
          walk_at "last subscriptTail"
          (repeat' (first | ((fail_if_success (with_reducible (first | refine tW ?_ | refine tI ?_ | refine tF ?_ | refine tC ?_ | show wpAny _ _ (subscriptTail _ _ _ (Value.int (@ite _ _ _ _ _) _)) _ _ _ | refine tR 475 ?_ | refine tR 482 ?_ | refine tR 489 ?_ | refine tR 496 ?_ | refine tR 503 ?_ | refine tR 510 ?_))); first | ((with_reducible show WhileStep2 _ _ _ _ _ _ (Flow.ret _) _); dsimp only [WhileStep2]) | ((with_reducible show TurnP _ _ _ _ _ _ _ _ _ (Flow.ret _) _); dsimp only [TurnP]) | (k_unfold; (try dsimp only)) | (k_end; first | refine' next_q (by with_reducible assumption) ?_ | refine' ret_q (by with_reducible assumption) ?_ | refine' brk_q (by with_reducible assumption) ?_ | refine' cont_q (by with_reducible assumption) ?_) | (k_end; wrow_close) | walk1 | (dsimp only; walk1) | (leave1; walk_say "STEP leave1"; try dsimp only)) | fail "no step"))
          all_goals ((rename ((_ : Int) = _) => h2); (rename (¬ (_ : Int) < _) => h1); (rename (((T.get x).wy.str == _) = true) => h3))
          · (rename (((T.get o).wy.str == Str.ofString _) = true) => h4)
            exact ex5 _ _ _ _ _ ⟨rfl, by assumption, nsub (by assumption) (by (first | kpc_turns | (intro p hp; (try simp only [List.mem_append, List.mem_cons] at hp); (try simp only [List.mem_append, List.mem_cons]); (repeat' (with_reducible refine Or.elim hp (fun hp => ?_) (fun hp => ?_))); all_goals first | (simp only [hp, true_or, or_true]; done) | ((have hq := (by assumption : ∀ p ∈ _, p ∈ _) p hp); simp only [hq, true_or, or_true]; done) | ((have hq := (by assumption : ∀ p ∈ _, p ∈ _) p hp); (try simp only [List.mem_append, List.mem_cons] at hq); (repeat' (with_reducible refine Or.elim hq (fun hq => ?_) (fun hq => ?_))); all_goals (simp only [hq, true_or, or_true]; done))))), ho, by (first | (intro z h1 h3; (repeat' (first | with_reducible rfl | with_reducible refine sm1 h1 ?_ | with_reducible refine sm2 h3 ?_ | with_reducible refine sm4 ?_ | with_reducible refine sm3 h3 (by kfm_turns) ?_)); done) | (intro z h1 h3; (try simp only [List.contains_cons, List.contains_nil, Bool.or_false, Bool.or_eq_false_iff, beq_eq_false_iff_ne, ne_eq] at h3); first | rfl | (simp [h1, h3]; done) | (simp_all; done))), rfl, rfl, bs_step hx hJ (letV_w2 (b := false) h1 h2 h3 rfl h4)⟩
          · (rename (((T.get o).wy.str == Str.ofString _) = false) => h4)
            exact hret _ _ _ _ (by assumption) (nsub (by assumption) (by (first | kpc_turns | (intro p hp; (try simp only [List.mem_append, List.mem_cons] at hp); (try simp only [List.mem_append, List.mem_cons]); (repeat' (with_reducible refine Or.elim hp (fun hp => ?_) (fun hp => ?_))); all_goals first | (simp only [hp, true_or, or_true]; done) | ((have hq := (by assumption : ∀ p ∈ _, p ∈ _) p hp); simp only [hq, true_or, or_true]; done) | ((have hq := (by assumption : ∀ p ∈ _, p ∈ _) p hp); (try simp only [List.mem_append, List.mem_cons] at hq); (repeat' (with_reducible refine Or.elim hq (fun hq => ?_) (fun hq => ?_))); all_goals (simp only [hq, true_or, or_true]; done)))))) sub0 fr0 (congrArg Value.bool (bs_no hx (letV_w2 (b := false) h1 h2 h3 rfl h4)).symm)
        · show wpAny _ _ (subscriptTail _ _ _ (Value.int 1 _)) _ _ _
          walk_at "last subscriptTail"
          (repeat' (first | ((fail_if_success (with_reducible (first | refine tW ?_ | refine tI ?_ | refine tF ?_ | refine tC ?_ | show wpAny _ _ (subscriptTail _ _ _ (Value.int (@ite _ _ _ _ _) _)) _ _ _ | refine tR 475 ?_ | refine tR 482 ?_ | refine tR 489 ?_ | refine tR 496 ?_ | refine tR 503 ?_ | refine tR 510 ?_))); first | ((with_reducible show WhileStep2 _ _ _ _ _ _ (Flow.ret _) _); dsimp only [WhileStep2]) | ((with_reducible show TurnP _ _ _ _ _ _ _ _ _ (Flow.ret _) _); dsimp only [TurnP]) | (k_unfold; (try dsimp only)) | (k_end; first | refine' next_q (by with_reducible assumption) ?_ | refine' ret_q (by with_reducible assumption) ?_ | refine' brk_q (by with_reducible assumption) ?_ | refine' cont_q (by with_reducible assumption) ?_) | (k_end; wrow_close) | walk1 | (dsimp only; walk1) | (leave1; walk_say "STEP leave1"; try dsimp only)) | fail "no step"))
          all_goals ((rename ((_ : Int) = _) => h2); (rename (¬ (_ : Int) < _) => h1); (rename (((T.get x).wy.str == _) = true) => h3))
          · (rename (((T.get o).wy.str == Str.ofString _) = true) => h4)
            exact ex5 _ _ _ _ _ ⟨rfl, by assumption, nsub (by assumption) (by (first | kpc_turns | (intro p hp; (try simp only [List.mem_append, List.mem_cons] at hp); (try simp only [List.mem_append, List.mem_cons]); (repeat' (with_reducible refine Or.elim hp (fun hp => ?_) (fun hp => ?_))); all_goals first | (simp only [hp, true_or, or_true]; done) | ((have hq := (by assumption : ∀ p ∈ _, p ∈ _) p hp); simp only [hq, true_or, or_true]; done) | ((have hq := (by assumption : ∀ p ∈ _, p ∈ _) p hp); (try simp only [List.mem_append, List.mem_cons] at hq); (repeat' (with_reducible refine Or.elim hq (fun hq => ?_) (fun hq => ?_))); all_goals (simp only [hq, true_or, or_true]; done))))), ho, by (first | (intro z h1 h3; (repeat' (first | with_reducible rfl | with_reducible refine sm1 h1 ?_ | with_reducible refine sm2 h3 ?_ | with_reducible refine sm4 ?_ | with_reducible refine sm3 h3 (by kfm_turns) ?_)); done) | (intro z h1 h3; (try simp only [List.contains_cons, List.contains_nil, Bool.or_false, Bool.or_eq_false_iff, beq_eq_false_iff_ne, ne_eq] at h3); first | rfl | (simp [h1, h3]; done) | (simp_all; done))), rfl, rfl, bs_step hx hJ (letV_w2 (b := true) h1 h2 h3 rfl h4)⟩
          · (rename (((T.get o).wy.str == Str.ofString _) = false) => h4)
            exact hret _ _ _ _ (by assumption) (nsub (by assumption) (by (first | kpc_turns | (intro p hp; (try simp only [List.mem_append, List.mem_cons] at hp); (try simp only [List.mem_append, List.mem_cons]); (repeat' (with_reducible refine Or.elim hp (fun hp => ?_) (fun hp => ?_))); all_goals first | (simp only [hp, true_or, or_true]; done) | ((have hq := (by assumption : ∀ p ∈ _, p ∈ _) p hp); simp only [hq, true_or, or_true]; done) | ((have hq := (by assumption : ∀ p ∈ _, p ∈ _) p hp); (try simp only [List.mem_append, List.mem_cons] at hq); (repeat' (with_reducible refine Or.elim hq (fun hq => ?_) (fun hq => ?_))); all_goals (simp only [hq, true_or, or_true]; done)))))) sub0 fr0 (congrArg Value.bool (bs_no hx (letV_w2 (b := true) h1 h2 h3 rfl h4)).symm)
      · (rename (_ = false) => h3)
        (rename ((_ : Int) = _) => h2)
        refine hret _ _ _ _ (by assumption) (nsub (by assumption) (by (first | kpc_turns | (intro p hp; (try simp only [List.mem_append, List.mem_cons] at hp); (try simp only [List.mem_append, List.mem_cons]); (repeat' (with_reducible refine Or.elim hp (fun hp => ?_) (fun hp => ?_))); all_goals first | (simp only [hp, true_or, or_true]; done) | ((have hq := (by assumption : ∀ p ∈ _, p ∈ _) p hp); simp only [hq, true_or, or_true]; done) | ((have hq := (by assumption : ∀ p ∈ _, p ∈ _) p hp); (try simp only [List.mem_append, List.mem_cons] at hq); (repeat' (with_reducible refine Or.elim hq (fun hq => ?_) (fun hq => ?_))); all_goals (simp only [hq, true_or, or_true]; done)))))) sub0 fr0 ?_
        · exact congrArg Value.bool (bs_no hx (letV_w1 h2 h3)).symm
      · (rename (¬ (_ : Int) < _) => h1)
        (rename ((_ : Int) ≠ _) => h2)
        exact ex5 _ _ _ _ _ ⟨rfl, by assumption, by assumption, ho, by (first | (intro z h1 h3; (repeat' (first | with_reducible rfl | with_reducible refine sm1 h1 ?_ | with_reducible refine sm2 h3 ?_ | with_reducible refine sm4 ?_ | with_reducible refine sm3 h3 (by kfm_turns) ?_)); done) | (intro z h1 h3; (try simp only [List.contains_cons, List.contains_nil, Bool.or_false, Bool.or_eq_false_iff, beq_eq_false_iff_ne, ne_eq] at h3); first | rfl | (simp [h1, h3]; done) | (simp_all; done))), rfl, rfl, bs_step hx hJ (letV_ne h1 h2)⟩
    · rintro u _ _ h tk hDD1 F₁ N₁
      walk_at "norm"
      obtain ⟨rfl, rfl, hJ⟩ := hDD1
      clear F1 N1
      (repeat' (first | ((fail_if_success (with_reducible (first | refine tW ?_ | refine tI ?_ | refine tF ?_ | refine tC ?_ | show wpAny _ _ (subscriptTail _ _ _ (Value.int (@ite _ _ _ _ _) _)) _ _ _ | refine tR 475 ?_ | refine tR 482 ?_ | refine tR 489 ?_ | refine tR 496 ?_ | refine tR 503 ?_ | refine tR 510 ?_))); first | ((with_reducible show WhileStep2 _ _ _ _ _ _ (Flow.ret _) _); dsimp only [WhileStep2]) | ((with_reducible show TurnP _ _ _ _ _ _ _ _ _ (Flow.ret _) _); dsimp only [TurnP]) | (k_unfold; (try dsimp only)) | (k_end; first | refine' next_q (by with_reducible assumption) ?_ | refine' ret_q (by with_reducible assumption) ?_ | refine' brk_q (by with_reducible assumption) ?_ | refine' cont_q (by with_reducible assumption) ?_) | (k_end; wrow_close) | walk1 | (dsimp only; walk1) | (leave1; walk_say "STEP leave1"; try dsimp only)) | fail "no step"))
      exact hret _ _ _ _ (by assumption) (nsub (by assumption) (by (first | kpc_turns | (intro p hp; (try simp only [List.mem_append, List.mem_cons] at hp); (try simp only [List.mem_append, List.mem_cons]); (repeat' (with_reducible refine Or.elim hp (fun hp => ?_) (fun hp => ?_))); all_goals first | (simp only [hp, true_or, or_true]; done) | ((have hq := (by assumption : ∀ p ∈ _, p ∈ _) p hp); simp only [hq, true_or, or_true]; done) | ((have hq := (by assumption : ∀ p ∈ _, p ∈ _) p hp); (try simp only [List.mem_append, List.mem_cons] at hq); (repeat' (with_reducible refine Or.elim hq (fun hq => ?_) (fun hq => ?_))); all_goals (simp only [hq, true_or, or_true]; done)))))) sub0 fr0 (congrArg Value.bool (bs_all hw.length hJ).symm))

end
section
theorem minus_let_spec (w : World) (hBs : BesideS w) : MinusS w := by
  unfold MinusS Spec
  k_fill
  rintro mean mg mb dp un gd cn cs a ccd cl outer A₀ base h₀ L m M P s vs ⟨T, t⟩ Q E B F X N TT hk hDD1 hd hu hret
  obtain ⟨tv, v, rfl, hT, ht, hz⟩ := hDD1
  refine wpAny_call ?_
  k_dflt ktr_enter
  dsimp only at hT ht hz
  w_strict (
    walk_at "norm"
    (rename Fr _ _ _ _ => F1)
    (replace F1 := fr_lk [(Str.ofString "tree", v), (Str.ofString "table", tv)] F1)
    (dsimp only [lkm] at F1)
    have ht0 := ht
    have hz0 := hz
    cases ht
    all_goals (repeat' (first | ((fail_if_success (with_reducible (first | refine tW ?_ | refine tI ?_ | refine tF ?_ | refine tC ?_ | refine tR 475 ?_ | refine tR 482 ?_ | refine tR 489 ?_ | refine tR 496 ?_ | refine tR 503 ?_ | refine tR 510 ?_))); first | ((with_reducible show WhileStep2 _ _ _ _ _ _ (Flow.ret _) _); dsimp only [WhileStep2]) | ((with_reducible show TurnP _ _ _ _ _ _ _ _ _ (Flow.ret _) _); dsimp only [TurnP]) | (k_unfold; (try dsimp only)) | (k_end; first | refine' next_q (by with_reducible assumption) ?_ | refine' ret_q (by with_reducible assumption) ?_ | refine' brk_q (by with_reducible assumption) ?_ | refine' cont_q (by with_reducible assumption) ?_) | (k_end; wrow_close) | walk1 | (dsimp only; walk1) | (leave1; walk_say "STEP leave1"; try dsimp only)) | fail "no step"))
    · refine' hBs.use M P (T, .mi, _, true) (by k_asm) (by k_asm) (by k_asm) (by k_asm) sub0 (by k_asm) rfl ⟨tv, _, _, _, rfl, hT, ht0, hz0⟩ (by ktr_room) (by ktr_units) ?_
      rintro r P' h' tk' F1 N1 hsub hfr rfl
      (repeat' (first | ((fail_if_success (with_reducible (first | refine tW ?_ | refine tI ?_ | refine tF ?_ | refine tC ?_ | refine tR 475 ?_ | refine tR 482 ?_ | refine tR 489 ?_ | refine tR 496 ?_ | refine tR 503 ?_ | refine tR 510 ?_))); first | ((with_reducible show WhileStep2 _ _ _ _ _ _ (Flow.ret _) _); dsimp only [WhileStep2]) | ((with_reducible show TurnP _ _ _ _ _ _ _ _ _ (Flow.ret _) _); dsimp only [TurnP]) | (k_unfold; (try dsimp only)) | (k_end; first | refine' next_q (by with_reducible assumption) ?_ | refine' ret_q (by with_reducible assumption) ?_ | refine' brk_q (by with_reducible assumption) ?_ | refine' cont_q (by with_reducible assumption) ?_) | (k_end; wrow_close) | walk1 | (dsimp only; walk1) | (leave1; walk_say "STEP leave1"; try dsimp only)) | fail "no step"))
      exact hret _ _ _ _ (by assumption) (by assumption) hsub hfr rfl
    · exact hret _ _ _ _ (by assumption) (by assumption) sub0 fr0 rfl
    · refine' hBs.use M P (T, .mi, _, true) (by k_asm) (by k_asm) (by k_asm) (by k_asm) sub0 (by k_asm) rfl ⟨tv, _, _, _, rfl, hT, ht0, hz0⟩ (by ktr_room) (by ktr_units) ?_
      rintro r P' h' tk' F1 N1 hsub hfr rfl
      (repeat' (first | ((fail_if_success (with_reducible (first | refine tW ?_ | refine tI ?_ | refine tF ?_ | refine tC ?_ | refine tR 475 ?_ | refine tR 482 ?_ | refine tR 489 ?_ | refine tR 496 ?_ | refine tR 503 ?_ | refine tR 510 ?_))); first | ((with_reducible show WhileStep2 _ _ _ _ _ _ (Flow.ret _) _); dsimp only [WhileStep2]) | ((with_reducible show TurnP _ _ _ _ _ _ _ _ _ (Flow.ret _) _); dsimp only [TurnP]) | (k_unfold; (try dsimp only)) | (k_end; first | refine' next_q (by with_reducible assumption) ?_ | refine' ret_q (by with_reducible assumption) ?_ | refine' brk_q (by with_reducible assumption) ?_ | refine' cont_q (by with_reducible assumption) ?_) | (k_end; wrow_close) | walk1 | (dsimp only; walk1) | (leave1; walk_say "STEP leave1"; try dsimp only)) | fail "no step"))
      exact hret _ _ _ _ (by assumption) (by assumption) hsub hfr rfl)

end
section
theorem trees_step (w : World) (hBs : BesideS w) (hMl : MinusS w) (hSg : SignedS w) (n : Nat) (IH : TreesS w n) : TreesS w (n + 1) := by
  unfold TreesS Spec
  k_fill
  rintro mean mg mb dp un gd cn cs a ccd cl outer A₀ base h₀ L m M P s vs ⟨T, l⟩ Q E B F X N TT hk hDD1 hd hu hret
  obtain ⟨tv, rv, rfl, hT, ⟨ra, ws, nn, rfl, hra, hws⟩, hv, hz, hn⟩ := hDD1
  refine wpAny_call ?_
  k_dflt ktr_enter
  dsimp only at hT hws hv hz hd hu
  w_strict (
    walk_at "norm"
    rename_i g1 L1 h1 FG1 F1 N1 B1 X1 T1
    (replace F1 := fr_lk [(Str.ofString "row", .ref ra), (Str.ofString "table", tv)] F1)
    (dsimp only [lkm] at F1)
    match l, hws, hv, hz with
    | [], hws, hv, hz => exact absurd hv (by decide)
    | [i], hws, hv, hz =>
      cases hws with
      | cons hi hr =>
        cases hr
        cases hi with
        | sym x t => exact absurd (vld_sym hv).2 Bool.false_ne_true
        | num i t =>
          (repeat' (first | ((fail_if_success (with_reducible (first | refine tW ?_ | refine tI ?_ | refine tF ?_ | refine tC ?_ | refine tR 475 ?_ | refine tR 482 ?_ | refine tR 489 ?_ | refine tR 496 ?_ | refine tR 503 ?_ | refine tR 510 ?_))); first | ((with_reducible show WhileStep2 _ _ _ _ _ _ (Flow.ret _) _); dsimp only [WhileStep2]) | ((with_reducible show TurnP _ _ _ _ _ _ _ _ _ (Flow.ret _) _); dsimp only [TurnP]) | (k_unfold; (try dsimp only)) | (k_end; first | refine' next_q (by with_reducible assumption) ?_ | refine' ret_q (by with_reducible assumption) ?_ | refine' brk_q (by with_reducible assumption) ?_ | refine' cont_q (by with_reducible assumption) ?_) | (k_end; wrow_close) | walk1 | (dsimp only; walk1) | (leave1; walk_say "STEP leave1"; try dsimp only)) | fail "no step"))
          exact hret _ _ _ _ (by assumption) (nsub (by assumption) mv1) sub1 (fr1 (by assumption)) ⟨_, _, _, rfl, .head _, .cons (.leaf _ _) .nil⟩
    | i :: j :: rest, hws, hv, hz =>
      cases hws with
      | @cons v0 _ ws0 _ hi hr =>
        cases hr with
        | @cons v1 _ ws1 _ hj hr =>
        have hrl := hr.length
        simp only [List.length_cons] at hz
        have hlen : List.length (v0 :: v1 :: ws1) = rest.length + 2 := by simp only [List.length_cons, hrl]
        have hroom : (treesN T (n + 1) (i :: j :: rest)).length ≤ 2000000 := trees_room (by simp only [List.length_cons]; omega)
        (repeat' (first | ((fail_if_success (with_reducible (first | refine tW ?_ | refine tI ?_ | refine tF ?_ | refine tC ?_ | show wpAny _ _ (exec (Stmt.If (PySem.Expr.Compare (PySem.Expr.Subscript _ _ _) _ _ _) _ _ _) _) _ _ _ | refine tR 475 ?_ | refine tR 482 ?_ | refine tR 489 ?_ | refine tR 496 ?_ | refine tR 503 ?_ | refine tR 510 ?_))); first | (k_unfold; (try dsimp only)) | (k_end; first | refine' next_q (by with_reducible assumption) ?_ | refine' ret_q (by with_reducible assumption) ?_ | refine' brk_q (by with_reducible assumption) ?_ | refine' cont_q (by with_reducible assumption) ?_) | (k_end; wrow_close) | walk1 | (dsimp only; walk1) | (leave1; walk_say "STEP leave1"; try dsimp only)) | fail "no step"))
        · exfalso; omega
        rename_i f h2 l1 h3 F2 N2
        have J00 : FJ f M P [] [] P := ⟨.refl, fun p hp => Nat.ne_of_lt (l1 p hp), .nil⟩
        refine cut_at (fun s' => ∃ (hh : Heap) (tk : Nat) (ws : List Value) (k : Nat) (P1 : Led) (u : Str → Option Value), s' = { s with heap := hh, toks := tk } ∧ Fr g1 L1 hh (fun y => if y = Str.ofString "tree" then u y else if ([] : List Str).contains y then u y else if y = Str.ofString "found" then some (.ref f) else if y = Str.ofString "row" then some (.ref ra) else if y = Str.ofString "table" then some tv else none) ∧ News g1 L1 hh ((f, listOf ws.toArray k) :: (M ++ P1)) ∧ FJ f M P ws (if i = .sym .mi then ((treesN T n (j :: rest)).filter (minusV T)).map .neg else []) P1) ?_ ?_
        · cases hi with
          | num i0 t0 =>
            (repeat' (first | ((fail_if_success (with_reducible (first | refine tW ?_ | refine tI ?_ | refine tF ?_ | refine tC ?_ | refine tR 475 ?_ | refine tR 482 ?_ | refine tR 489 ?_ | refine tR 496 ?_ | refine tR 503 ?_ | refine tR 510 ?_))); first | ((with_reducible show WhileStep2 _ _ _ _ _ _ (Flow.ret _) _); dsimp only [WhileStep2]) | ((with_reducible show TurnP _ _ _ _ _ _ _ _ _ (Flow.ret _) _); dsimp only [TurnP]) | (k_unfold; (try dsimp only)) | (k_end; first | refine' next_q (by with_reducible assumption) ?_ | refine' ret_q (by with_reducible assumption) ?_ | refine' brk_q (by with_reducible assumption) ?_ | refine' cont_q (by with_reducible assumption) ?_) | (k_end; wrow_close) | walk1 | (dsimp only; walk1) | (leave1; walk_say "STEP leave1"; try dsimp only)) | fail "no step"))
            exact ⟨rfl, _, _, [], 0, P, _, rfl, by rw [← over_eq' (fun _ _ _ => rfl)]; assumption, by assumption, J00⟩
          | sym x t0 =>
            have hx : x = .mi := by
              cases x <;> first | rfl | exact absurd (vld_sym hv).1 (by decide)
            subst hx
            (repeat' (first | ((fail_if_success (with_reducible (first | refine tW ?_ | refine tI ?_ | refine tF ?_ | refine tC ?_ | refine tR 475 ?_ | refine tR 482 ?_ | refine tR 489 ?_ | refine tR 496 ?_ | refine tR 503 ?_ | refine tR 510 ?_))); first | ((with_reducible show WhileStep2 _ _ _ _ _ _ (Flow.ret _) _); dsimp only [WhileStep2]) | ((with_reducible show TurnP _ _ _ _ _ _ _ _ _ (Flow.ret _) _); dsimp only [TurnP]) | (k_unfold; (try dsimp only)) | (k_end; first | refine' next_q (by with_reducible assumption) ?_ | refine' ret_q (by with_reducible assumption) ?_ | refine' brk_q (by with_reducible assumption) ?_ | refine' cont_q (by with_reducible assumption) ?_) | (k_end; wrow_close) | walk1 | (dsimp only; walk1) | (leave1; walk_say "STEP leave1"; try dsimp only)) | fail "no step"))
            (rename Fr _ _ _ _ => F3)
            refine For_invVF F3 rfl rfl ?_
            (repeat' (first | ((fail_if_success (with_reducible (first | refine tW ?_ | refine tI ?_ | refine tF ?_ | refine tC ?_ | refine tR 475 ?_ | refine tR 482 ?_ | refine tR 489 ?_ | refine tR 496 ?_ | refine tR 503 ?_ | refine tR 510 ?_))); first | ((with_reducible show WhileStep2 _ _ _ _ _ _ (Flow.ret _) _); dsimp only [WhileStep2]) | ((with_reducible show TurnP _ _ _ _ _ _ _ _ _ (Flow.ret _) _); dsimp only [TurnP]) | (k_unfold; (try dsimp only)) | (k_end; first | refine' next_q (by with_reducible assumption) ?_ | refine' ret_q (by with_reducible assumption) ?_ | refine' brk_q (by with_reducible assumption) ?_ | refine' cont_q (by with_reducible assumption) ?_) | (k_end; wrow_close) | walk1 | (dsimp only; walk1) | (leave1; walk_say "STEP leave1"; try dsimp only)) | fail "no step"))
            rename_i D h4 F3 N3 l4
            refine' IH.use ((f, listOf #[] 0) :: M) ((D, listOf (List.drop (Int.toNat 1) (Value.str Nm.mi.str t0 :: v1 :: ws1)).toArray 0) :: P) (T, j :: rest) (by k_asm) F3 (by k_asm) N3 (by (first | kpc_turns | (intro p hp; (try simp only [List.mem_append, List.mem_cons] at hp); (try simp only [List.mem_append, List.mem_cons]); (repeat' (with_reducible refine Or.elim hp (fun hp => ?_) (fun hp => ?_))); all_goals first | (simp only [hp, true_or, or_true]; done) | ((have hq := (by assumption : ∀ p ∈ _, p ∈ _) p hp); simp only [hq, true_or, or_true]; done) | ((have hq := (by assumption : ∀ p ∈ _, p ∈ _) p hp); (try simp only [List.mem_append, List.mem_cons] at hq); (repeat' (with_reducible refine Or.elim hq (fun hq => ?_) (fun hq => ?_))); all_goals (simp only [hq, true_or, or_true]; done))))) (by k_asm) rfl ⟨tv, _, rfl, hT.mono sub1, ⟨D, _, 0, rfl, .head _, .cons hj hr⟩, vld_minus hv, by simp only [List.length_cons]; omega, by omega⟩ (by simp only [List.length_cons] at hd ⊢; exact rm3 hd (Nat.lt_succ_self _)) (by simp only [List.length_cons] at hu ⊢; exact un4 hu (Nat.lt_succ_self _)) ?_
            rintro r P2 h5 tk5 F4 N4 hs2 hf2 hDD1
            walk_at "norm"
            refine el3 hDD1 ?_
            clear hDD1
            rintro la lvs ln ⟨rfl, hl, hta⟩
            clear F3 N3
            dsimp only at hta
            have J0 : FJ f M P [] [] P2 := (J00.new (l4 _ (.head _)) (fun p hp => l4 p (.tail _ hp))).call ⟨hs2, hf2⟩
            (repeat' (first | ((fail_if_success (with_reducible (first | refine tW ?_ | refine tI ?_ | refine tF ?_ | refine tC ?_ | refine tR 475 ?_ | refine tR 482 ?_ | refine tR 489 ?_ | refine tR 496 ?_ | refine tR 503 ?_ | refine tR 510 ?_))); first | ((with_reducible show WhileStep2 _ _ _ _ _ _ (Flow.ret _) _); dsimp only [WhileStep2]) | ((with_reducible show TurnP _ _ _ _ _ _ _ _ _ (Flow.ret _) _); dsimp only [TurnP]) | (k_unfold; (try dsimp only)) | (k_end; first | refine' next_q (by with_reducible assumption) ?_ | refine' ret_q (by with_reducible assumption) ?_ | refine' brk_q (by with_reducible assumption) ?_ | refine' cont_q (by with_reducible assumption) ?_) | (k_end; wrow_close) | walk1 | (dsimp only; walk1) | (leave1; walk_say "STEP leave1"; try dsimp only)) | fail "no step"))
            (rename Fr _ _ _ _ => F4)
            (rename News _ _ _ _ => N4)
            refine forG [] (fun i u Mx Px => ∃ (ws : List Value) (k : Nat), Mx = (f, listOf ws.toArray k) :: M ∧ (∀ p ∈ P2, p ∈ Px) ∧ FJ f M P ws ((((treesN T n (j :: rest)).take i).filter (minusV T)).map .neg) Px) rfl (fun i u Mx Px hx => hx.elim fun _ hy => hy.elim fun _ hz => hz.2.1 _ hl) F4 N4 ⟨[], 0, rfl, sub0, J0⟩ ?_ ?_
            · rintro i' v' u _ Px h6 tk6 own hv' ho hDD1 F5 N5
              walk_at "norm"
              obtain ⟨ws, k, rfl, hs3, HJ⟩ := hDD1
              clear F4 N4
              obtain ⟨t', ht', htr⟩ := hta.at hv'
              have N6 : News g1 L1 h6 ((f, listOf ws.toArray k) :: ((own ++ M) ++ Px)) := nsub N5 (by (first | kpc_turns | (intro p hp; (try simp only [List.mem_append, List.mem_cons] at hp); (try simp only [List.mem_append, List.mem_cons]); (repeat' (with_reducible refine Or.elim hp (fun hp => ?_) (fun hp => ?_))); all_goals first | (simp only [hp, true_or, or_true]; done) | ((have hq := (by assumption : ∀ p ∈ _, p ∈ _) p hp); simp only [hq, true_or, or_true]; done) | ((have hq := (by assumption : ∀ p ∈ _, p ∈ _) p hp); (try simp only [List.mem_append, List.mem_cons] at hq); (repeat' (with_reducible refine Or.elim hq (fun hq => ?_) (fun hq => ?_))); all_goals (simp only [hq, true_or, or_true]; done)))))
              clear N5
              have HI := HJ.enter ho
              have hoffA := HI.off
              (repeat' (first | ((fail_if_success (with_reducible (first | refine tW ?_ | refine tI ?_ | refine tF ?_ | refine tC ?_ | refine tR 475 ?_ | refine tR 482 ?_ | refine tR 489 ?_ | refine tR 496 ?_ | refine tR 503 ?_ | refine tR 510 ?_))); first | ((with_reducible show WhileStep2 _ _ _ _ _ _ (Flow.ret _) _); dsimp only [WhileStep2]) | ((with_reducible show TurnP _ _ _ _ _ _ _ _ _ (Flow.ret _) _); dsimp only [TurnP]) | (k_unfold; (try dsimp only)) | (k_end; first | refine' next_q (by with_reducible assumption) ?_ | refine' ret_q (by with_reducible assumption) ?_ | refine' brk_q (by with_reducible assumption) ?_ | refine' cont_q (by with_reducible assumption) ?_) | (k_end; wrow_close) | walk1 | (dsimp only; walk1) | (leave1; walk_say "STEP leave1"; try dsimp only)) | fail "no step"))
              have hsz : t'.size ≤ 100 := by have := treesN_size T n _ _ (List.mem_of_getElem? ht'); simp only [List.length_cons] at this; omega
              have hacl : ws.toArray.size ≤ sizeLine := by
                have h1 := HJ.are.length
                have h2 : ((((treesN T n (j :: rest)).take i').filter (minusV T)).map Tr.neg).length ≤ (treesN T n (j :: rest)).length := by rw [List.length_map]; exact Nat.le_trans (List.length_filter_le ..) (by rw [List.length_take]; exact Nat.min_le_right _ _)
                have h3 := trees_room (T := T) (n := n) (l := j :: rest) (by simp only [List.length_cons]; omega)
                rw [List.size_toArray, sizeLine_eq]; omega
              refine' hMl.use ((f, listOf ws.toArray k) :: (own ++ M)) Px (T, t') (by k_asm) (by k_asm) (by k_asm) N6 (by (first | kpc_turns | (intro p hp; (try simp only [List.mem_append, List.mem_cons] at hp); (try simp only [List.mem_append, List.mem_cons]); (repeat' (with_reducible refine Or.elim hp (fun hp => ?_) (fun hp => ?_))); all_goals first | (simp only [hp, true_or, or_true]; done) | ((have hq := (by assumption : ∀ p ∈ _, p ∈ _) p hp); simp only [hq, true_or, or_true]; done) | ((have hq := (by assumption : ∀ p ∈ _, p ∈ _) p hp); (try simp only [List.mem_append, List.mem_cons] at hq); (repeat' (with_reducible refine Or.elim hq (fun hq => ?_) (fun hq => ?_))); all_goals (simp only [hq, true_or, or_true]; done))))) (by k_asm) rfl ⟨tv, v', rfl, hT.mono (fun p hp => HJ.gr.sub p hp), htr.mono hs3, hsz⟩ (by simp only [List.length_cons] at hd ⊢; ktr_room) (by simp only [List.length_cons] at hu ⊢; ktr_units) ?_
              rintro r P3 h7 tk7 F7 N7 hs4 hf4 rfl
              clear N6 F5
              have N8 : News g1 L1 h7 ((f, listOf ws.toArray k) :: ((own ++ M) ++ P3)) := nsub N7 (by (first | kpc_turns | (intro p hp; (try simp only [List.mem_append, List.mem_cons] at hp); (try simp only [List.mem_append, List.mem_cons]); (repeat' (with_reducible refine Or.elim hp (fun hp => ?_) (fun hp => ?_))); all_goals first | (simp only [hp, true_or, or_true]; done) | ((have hq := (by assumption : ∀ p ∈ _, p ∈ _) p hp); simp only [hq, true_or, or_true]; done) | ((have hq := (by assumption : ∀ p ∈ _, p ∈ _) p hp); (try simp only [List.mem_append, List.mem_cons] at hq); (repeat' (with_reducible refine Or.elim hq (fun hq => ?_) (fun hq => ?_))); all_goals (simp only [hq, true_or, or_true]; done)))))
              clear N7
              have HK := HI.call ⟨hs4, hf4⟩
              have hoffB := HK.off
              (repeat' (first | ((fail_if_success (with_reducible (first | refine tW ?_ | refine tI ?_ | refine tF ?_ | refine tC ?_ | refine tR 475 ?_ | refine tR 482 ?_ | refine tR 489 ?_ | refine tR 496 ?_ | refine tR 503 ?_ | refine tR 510 ?_))); first | ((with_reducible show WhileStep2 _ _ _ _ _ _ (Flow.ret _) _); dsimp only [WhileStep2]) | ((with_reducible show TurnP _ _ _ _ _ _ _ _ _ (Flow.ret _) _); dsimp only [TurnP]) | (k_unfold; (try dsimp only)) | (k_end; first | refine' next_q (by with_reducible assumption) ?_ | refine' ret_q (by with_reducible assumption) ?_ | refine' brk_q (by with_reducible assumption) ?_ | refine' cont_q (by with_reducible assumption) ?_) | (k_end; wrow_close) | walk1 | (dsimp only; walk1) | (leave1; walk_say "STEP leave1"; try dsimp only)) | fail "no step"))
              · (rename _ = true => hyes)
                (rename _ ∧ AllLt _ _ => hlt)
                rename_i D _ _ _ N9
                rw [List.push_toArray] at N9
                have HL := (HK.newN N9 hlt).push (v := .ref D) (.neg (.head _) ((htr.mono hs3).mono fun p hp => .tail _ (hs4 p hp)))
                obtain ⟨hA, hB⟩ := HJ.exit (o' := listOf (ws ++ [Value.ref D]).toArray (k + 1)) ho HL
                exact ex5 _ _ _ ((f, listOf (ws ++ [Value.ref D]).toArray (k + 1)) :: M) _ ⟨rfl, by assumption, nsub N9 (by (first | kpc_turns | (intro p hp; (try simp only [List.mem_append, List.mem_cons] at hp); (try simp only [List.mem_append, List.mem_cons]); (repeat' (with_reducible refine Or.elim hp (fun hp => ?_) (fun hp => ?_))); all_goals first | (simp only [hp, true_or, or_true]; done) | ((have hq := (by assumption : ∀ p ∈ _, p ∈ _) p hp); simp only [hq, true_or, or_true]; done) | ((have hq := (by assumption : ∀ p ∈ _, p ∈ _) p hp); (try simp only [List.mem_append, List.mem_cons] at hq); (repeat' (with_reducible refine Or.elim hq (fun hq => ?_) (fun hq => ?_))); all_goals (simp only [hq, true_or, or_true]; done))))), hA, by (first | (intro z h1 h3; (repeat' (first | with_reducible rfl | with_reducible refine sm1 h1 ?_ | with_reducible refine sm2 h3 ?_ | with_reducible refine sm4 ?_ | with_reducible refine sm3 h3 (by kfm_turns) ?_)); done) | (intro z h1 h3; (try simp only [List.contains_cons, List.contains_nil, Bool.or_false, Bool.or_eq_false_iff, beq_eq_false_iff_ne, ne_eq] at h3); first | rfl | (simp [h1, h3]; done) | (simp_all; done))), ex2 (ws ++ [Value.ref D]) (k + 1) ⟨rfl, fun p hp => .tail _ (hs4 p (hs3 p hp)), by rw [List.take_add_one, ht', List.filter_append, List.map_append]; simpa [hyes] using hB⟩⟩
              · (rename _ = false => hno)
                obtain ⟨hA, hB⟩ := HJ.exit (o' := listOf ws.toArray k) ho HK
                exact ex5 _ _ _ ((f, listOf ws.toArray k) :: M) _ ⟨rfl, by assumption, nsub N8 (by (first | kpc_turns | (intro p hp; (try simp only [List.mem_append, List.mem_cons] at hp); (try simp only [List.mem_append, List.mem_cons]); (repeat' (with_reducible refine Or.elim hp (fun hp => ?_) (fun hp => ?_))); all_goals first | (simp only [hp, true_or, or_true]; done) | ((have hq := (by assumption : ∀ p ∈ _, p ∈ _) p hp); simp only [hq, true_or, or_true]; done) | ((have hq := (by assumption : ∀ p ∈ _, p ∈ _) p hp); (try simp only [List.mem_append, List.mem_cons] at hq); (repeat' (with_reducible refine Or.elim hq (fun hq => ?_) (fun hq => ?_))); all_goals (simp only [hq, true_or, or_true]; done))))), hA, by (first | (intro z h1 h3; (repeat' (first | with_reducible rfl | with_reducible refine sm1 h1 ?_ | with_reducible refine sm2 h3 ?_ | with_reducible refine sm4 ?_ | with_reducible refine sm3 h3 (by kfm_turns) ?_)); done) | (intro z h1 h3; (try simp only [List.contains_cons, List.contains_nil, Bool.or_false, Bool.or_eq_false_iff, beq_eq_false_iff_ne, ne_eq] at h3); first | rfl | (simp [h1, h3]; done) | (simp_all; done))), ex2 ws k ⟨rfl, fun p hp => hs4 p (hs3 p hp), by rw [List.take_add_one, ht', List.filter_append, List.map_append]; simpa [hno] using hB⟩⟩
            · rintro u _ Px h6 tk6 hDD1 F5 N5
              walk_at "norm"
              obtain ⟨ws, k, rfl, hs3, HJ⟩ := hDD1
              clear F4 N4
              (repeat' (first | ((fail_if_success (with_reducible (first | refine tW ?_ | refine tI ?_ | refine tF ?_ | refine tC ?_ | refine tR 475 ?_ | refine tR 482 ?_ | refine tR 489 ?_ | refine tR 496 ?_ | refine tR 503 ?_ | refine tR 510 ?_))); first | ((with_reducible show WhileStep2 _ _ _ _ _ _ (Flow.ret _) _); dsimp only [WhileStep2]) | ((with_reducible show TurnP _ _ _ _ _ _ _ _ _ (Flow.ret _) _); dsimp only [TurnP]) | (k_unfold; (try dsimp only)) | (k_end; first | refine' next_q (by with_reducible assumption) ?_ | refine' ret_q (by with_reducible assumption) ?_ | refine' brk_q (by with_reducible assumption) ?_ | refine' cont_q (by with_reducible assumption) ?_) | (k_end; wrow_close) | walk1 | (dsimp only; walk1) | (leave1; walk_say "STEP leave1"; try dsimp only)) | fail "no step"))
              refine ⟨rfl, _, _, ws, k, Px, u, rfl, F5, N5, ?_⟩
              rw [hta.length, List.take_length] at HJ
              simpa using HJ
        · rintro _ hDD1
          walk_at "norm"
          refine el6 hDD1 ?_
          clear hDD1
          rintro hh tk' ws k P1 u ⟨rfl, F3, N3, HJ⟩
          clear F2 N2
          have hra1 := HJ.gr.sub _ hra
          have hwsA : ItsAre (v0 :: v1 :: ws1) (i :: j :: rest) := .cons hi (.cons hj hr)
          (repeat' (first | ((fail_if_success (with_reducible (first | refine tW ?_ | refine tI ?_ | refine tF ?_ | refine tC ?_ | show wpAny _ _ (exec (Stmt.If (PySem.Expr.Compare (PySem.Expr.Subscript _ _ _) _ _ _) _ _ _) _) _ _ _ | refine tR 475 ?_ | refine tR 482 ?_ | refine tR 489 ?_ | refine tR 496 ?_ | refine tR 503 ?_ | refine tR 510 ?_))); first | (k_unfold; (try dsimp only)) | (k_end; first | refine' next_q (by with_reducible assumption) ?_ | refine' ret_q (by with_reducible assumption) ?_ | refine' brk_q (by with_reducible assumption) ?_ | refine' cont_q (by with_reducible assumption) ?_) | (k_end; wrow_close) | walk1 | (dsimp only; walk1) | (leave1; walk_say "STEP leave1"; try dsimp only)) | fail "no step"))
          refine For_invVF F3 rfl rfl ?_
          (repeat' (first | ((fail_if_success (with_reducible (first | refine tW ?_ | refine tI ?_ | refine tF ?_ | refine tC ?_ | refine tR 475 ?_ | refine tR 482 ?_ | refine tR 489 ?_ | refine tR 496 ?_ | refine tR 503 ?_ | refine tR 510 ?_))); first | ((with_reducible show WhileStep2 _ _ _ _ _ _ (Flow.ret _) _); dsimp only [WhileStep2]) | ((with_reducible show TurnP _ _ _ _ _ _ _ _ _ (Flow.ret _) _); dsimp only [TurnP]) | (k_unfold; (try dsimp only)) | (k_end; first | refine' next_q (by with_reducible assumption) ?_ | refine' ret_q (by with_reducible assumption) ?_ | refine' brk_q (by with_reducible assumption) ?_ | refine' cont_q (by with_reducible assumption) ?_) | (k_end; wrow_close) | walk1 | (dsimp only; walk1) | (leave1; walk_say "STEP leave1"; try dsimp only)) | fail "no step"))
          (rename Fr _ _ _ _ => F4)
          (rename News _ _ _ _ => N4)
          (rename IsRange _ _ _ _ _ _ _ _ => rg)
          skip
          generalize hbs : (if i = It.sym Nm.mi then List.map Tr.neg (List.filter (minusV T) (treesN T n (j :: rest))) else []) = bs at HJ
          refine forR (M := (f, listOf ws.toArray k) :: M) (P := P1) (n := rest.length + 1) [Str.ofString "left", Str.ofString "right"] (fun i' u Mx Px => ∃ ws k, Mx = (f, listOf ws.toArray k) :: M ∧ FJ f M P ws (bs ++ (List.range i').flatMap (atK T (treesN T n) (i :: j :: rest))) Px) rfl rg (small_one (by omega) (by omega) (by omega) (by omega)) (by rw [rangeSize_nat]; omega) F4 N4 ⟨ws, k, rfl, by simpa using HJ⟩ ?_ ?_
          · rintro i' tki u' _ Px h6 tk6 own hi' ho hDD1 F5 N5
            walk_at "norm"
            obtain ⟨ws, k, rfl, HJ⟩ := hDD1
            have N6 : News g1 L1 h6 ((f, listOf ws.toArray k) :: ((own ++ M) ++ Px)) := nsub N5 (by (first | kpc_turns | (intro p hp; (try simp only [List.mem_append, List.mem_cons] at hp); (try simp only [List.mem_append, List.mem_cons]); (repeat' (with_reducible refine Or.elim hp (fun hp => ?_) (fun hp => ?_))); all_goals first | (simp only [hp, true_or, or_true]; done) | ((have hq := (by assumption : ∀ p ∈ _, p ∈ _) p hp); simp only [hq, true_or, or_true]; done) | ((have hq := (by assumption : ∀ p ∈ _, p ∈ _) p hp); (try simp only [List.mem_append, List.mem_cons] at hq); (repeat' (with_reducible refine Or.elim hq (fun hq => ?_) (fun hq => ?_))); all_goals (simp only [hq, true_or, or_true]; done)))))
            clear N5 F4 N4
            have HI := HJ.enter ho
            have hoffA := HI.off
            have hra2 := HJ.gr.sub _ hra
            obtain ⟨it, hit⟩ : ∃ it, (i :: j :: rest)[i' + 1]? = some it := ⟨_, List.getElem?_eq_getElem (by simp only [List.length_cons]; omega)⟩
            obtain ⟨v, hv', hiv⟩ := hwsA.at hit
            have hidx : (v0 :: v1 :: ws1)[(1 + (i' : Int)).toNat]? = some v := by rw [show (1 + (i' : Int)).toNat = i' + 1 by omega]; exact hv'
            cases hiv with
            | num i0 t0 =>
              (repeat' (first | ((fail_if_success (with_reducible (first | refine tW ?_ | refine tI ?_ | refine tF ?_ | refine tC ?_ | refine tR 475 ?_ | refine tR 482 ?_ | refine tR 489 ?_ | refine tR 496 ?_ | refine tR 503 ?_ | refine tR 510 ?_))); first | ((with_reducible show WhileStep2 _ _ _ _ _ _ (Flow.ret _) _); dsimp only [WhileStep2]) | ((with_reducible show TurnP _ _ _ _ _ _ _ _ _ (Flow.ret _) _); dsimp only [TurnP]) | (k_unfold; (try dsimp only)) | (k_end; first | refine' next_q (by with_reducible assumption) ?_ | refine' ret_q (by with_reducible assumption) ?_ | refine' brk_q (by with_reducible assumption) ?_ | refine' cont_q (by with_reducible assumption) ?_) | (k_end; wrow_close) | walk1 | (dsimp only; walk1) | (leave1; walk_say "STEP leave1"; try dsimp only)) | fail "no step"))
              obtain ⟨hA, hB⟩ := HJ.exit (o' := listOf ws.toArray k) ho HI
              exact ex5 _ _ _ ((f, listOf ws.toArray k) :: M) _ ⟨rfl, by assumption, nsub N6 (by (first | kpc_turns | (intro p hp; (try simp only [List.mem_append, List.mem_cons] at hp); (try simp only [List.mem_append, List.mem_cons]); (repeat' (with_reducible refine Or.elim hp (fun hp => ?_) (fun hp => ?_))); all_goals first | (simp only [hp, true_or, or_true]; done) | ((have hq := (by assumption : ∀ p ∈ _, p ∈ _) p hp); simp only [hq, true_or, or_true]; done) | ((have hq := (by assumption : ∀ p ∈ _, p ∈ _) p hp); (try simp only [List.mem_append, List.mem_cons] at hq); (repeat' (with_reducible refine Or.elim hq (fun hq => ?_) (fun hq => ?_))); all_goals (simp only [hq, true_or, or_true]; done))))), hA, by (first | (intro z h1 h3; (repeat' (first | with_reducible rfl | with_reducible refine sm1 h1 ?_ | with_reducible refine sm2 h3 ?_ | with_reducible refine sm4 ?_ | with_reducible refine sm3 h3 (by kfm_turns) ?_)); done) | (intro z h1 h3; (try simp only [List.contains_cons, List.contains_nil, Bool.or_false, Bool.or_eq_false_iff, beq_eq_false_iff_ne, ne_eq] at h3); first | rfl | (simp [h1, h3]; done) | (simp_all; done))), ex2 ws k ⟨rfl, by rw [range_snoc]; simpa [atK, hit] using hB⟩⟩
            | sym x t0 =>
              (repeat' (first | ((fail_if_success (with_reducible (first | refine tW ?_ | refine tI ?_ | refine tF ?_ | refine tC ?_ | refine tR 475 ?_ | refine tR 482 ?_ | refine tR 489 ?_ | refine tR 496 ?_ | refine tR 503 ?_ | refine tR 510 ?_))); first | ((with_reducible show WhileStep2 _ _ _ _ _ _ (Flow.ret _) _); dsimp only [WhileStep2]) | ((with_reducible show TurnP _ _ _ _ _ _ _ _ _ (Flow.ret _) _); dsimp only [TurnP]) | (k_unfold; (try dsimp only)) | (k_end; first | refine' next_q (by with_reducible assumption) ?_ | refine' ret_q (by with_reducible assumption) ?_ | refine' brk_q (by with_reducible assumption) ?_ | refine' cont_q (by with_reducible assumption) ?_) | (k_end; wrow_close) | walk1 | (dsimp only; walk1) | (leave1; walk_say "STEP leave1"; try dsimp only)) | fail "no step"))
              rotate_left
              · (rename _ = false => hxm)
                have hx : x = .mi := by
                  rw [show Str.ofString "-" = Nm.mi.str from rfl, bne, nm_beq] at hxm
                  simpa using hxm
                subst hx
                obtain ⟨hA, hB⟩ := HJ.exit (o' := listOf ws.toArray k) ho HI
                exact ex5 _ _ _ ((f, listOf ws.toArray k) :: M) _ ⟨rfl, by assumption, nsub N6 (by (first | kpc_turns | (intro p hp; (try simp only [List.mem_append, List.mem_cons] at hp); (try simp only [List.mem_append, List.mem_cons]); (repeat' (with_reducible refine Or.elim hp (fun hp => ?_) (fun hp => ?_))); all_goals first | (simp only [hp, true_or, or_true]; done) | ((have hq := (by assumption : ∀ p ∈ _, p ∈ _) p hp); simp only [hq, true_or, or_true]; done) | ((have hq := (by assumption : ∀ p ∈ _, p ∈ _) p hp); (try simp only [List.mem_append, List.mem_cons] at hq); (repeat' (with_reducible refine Or.elim hq (fun hq => ?_) (fun hq => ?_))); all_goals (simp only [hq, true_or, or_true]; done))))), hA, by (first | (intro z h1 h3; (repeat' (first | with_reducible rfl | with_reducible refine sm1 h1 ?_ | with_reducible refine sm2 h3 ?_ | with_reducible refine sm4 ?_ | with_reducible refine sm3 h3 (by kfm_turns) ?_)); done) | (intro z h1 h3; (try simp only [List.contains_cons, List.contains_nil, Bool.or_false, Bool.or_eq_false_iff, beq_eq_false_iff_ne, ne_eq] at h3); first | rfl | (simp [h1, h3]; done) | (simp_all; done))), ex2 ws k ⟨rfl, by rw [range_snoc, atK_mi hit, List.append_nil]; exact hB⟩⟩
              · (rename _ = true => hxm)
                have hx : x ≠ .mi := by
                  rw [show Str.ofString "-" = Nm.mi.str from rfl, bne, nm_beq] at hxm
                  simpa using hxm
                have hvs := vld_split hx hv hit
                (rename Fr _ _ _ _ => F6)
                refine For_invVF F6 rfl rfl ?_
                (repeat' (first | ((fail_if_success (with_reducible (first | refine tW ?_ | refine tI ?_ | refine tF ?_ | refine tC ?_ | refine tR 475 ?_ | refine tR 482 ?_ | refine tR 489 ?_ | refine tR 496 ?_ | refine tR 503 ?_ | refine tR 510 ?_))); first | ((with_reducible show WhileStep2 _ _ _ _ _ _ (Flow.ret _) _); dsimp only [WhileStep2]) | ((with_reducible show TurnP _ _ _ _ _ _ _ _ _ (Flow.ret _) _); dsimp only [TurnP]) | (k_unfold; (try dsimp only)) | (k_end; first | refine' next_q (by with_reducible assumption) ?_ | refine' ret_q (by with_reducible assumption) ?_ | refine' brk_q (by with_reducible assumption) ?_ | refine' cont_q (by with_reducible assumption) ?_) | (k_end; wrow_close) | walk1 | (dsimp only; walk1) | (leave1; walk_say "STEP leave1"; try dsimp only)) | fail "no step"))
                (rename Fr _ _ _ _ => F7)
                (rename News _ _ _ _ => N7)
                rename_i D h7 l7
                refine' IH.use ((f, listOf ws.toArray k) :: (own ++ M)) ((D, listOf (List.take (1 + (i' : Int)).toNat (v0 :: v1 :: ws1)).toArray 0) :: Px) (T, (i :: j :: rest).take (i' + 1)) (by k_asm) F7 (by k_asm) N7 (by (first | kpc_turns | (intro p hp; (try simp only [List.mem_append, List.mem_cons] at hp); (try simp only [List.mem_append, List.mem_cons]); (repeat' (with_reducible refine Or.elim hp (fun hp => ?_) (fun hp => ?_))); all_goals first | (simp only [hp, true_or, or_true]; done) | ((have hq := (by assumption : ∀ p ∈ _, p ∈ _) p hp); simp only [hq, true_or, or_true]; done) | ((have hq := (by assumption : ∀ p ∈ _, p ∈ _) p hp); (try simp only [List.mem_append, List.mem_cons] at hq); (repeat' (with_reducible refine Or.elim hq (fun hq => ?_) (fun hq => ?_))); all_goals (simp only [hq, true_or, or_true]; done))))) (by k_asm) rfl ⟨tv, _, rfl, hT.mono (fun p hp => .tail _ (HJ.gr.sub p hp)), ⟨D, _, 0, rfl, .head _, by rw [show (1 + (i' : Int)).toNat = i' + 1 by omega]; exact hwsA.take _⟩, hvs.1, by simp only [List.length_take, List.length_cons]; omega, by omega⟩ (by simp only [List.length_take, List.length_cons] at hd ⊢; exact rm3 hd (Nat.lt_of_le_of_lt (Nat.min_le_left _ _) (Nat.succ_lt_succ (by assumption)))) (by simp only [List.length_take, List.length_cons] at hu ⊢; exact un4 hu (Nat.lt_of_le_of_lt (Nat.min_le_left _ _) (Nat.succ_lt_succ (by assumption)))) ?_
                rintro r P2 h8 tk8 F8 N8 hs8 hf8 hDD1
                walk_at "norm"
                refine el3 hDD1 ?_
                clear hDD1
                rintro la lvs ln ⟨rfl, hl, hta⟩
                clear F7 N7
                dsimp only at hta
                have J2 := (HI.new (l7 _ (.head _)) (fun p hp => l7 p (.tail _ hp))).call ⟨hs8, hf8⟩
                (repeat' (first | ((fail_if_success (with_reducible (first | refine tW ?_ | refine tI ?_ | refine tF ?_ | refine tC ?_ | refine tR 475 ?_ | refine tR 482 ?_ | refine tR 489 ?_ | refine tR 496 ?_ | refine tR 503 ?_ | refine tR 510 ?_))); first | ((with_reducible show WhileStep2 _ _ _ _ _ _ (Flow.ret _) _); dsimp only [WhileStep2]) | ((with_reducible show TurnP _ _ _ _ _ _ _ _ _ (Flow.ret _) _); dsimp only [TurnP]) | (k_unfold; (try dsimp only)) | (k_end; first | refine' next_q (by with_reducible assumption) ?_ | refine' ret_q (by with_reducible assumption) ?_ | refine' brk_q (by with_reducible assumption) ?_ | refine' cont_q (by with_reducible assumption) ?_) | (k_end; wrow_close) | walk1 | (dsimp only; walk1) | (leave1; walk_say "STEP leave1"; try dsimp only)) | fail "no step"))
                (rename Fr _ _ _ _ => F9)
                (rename News _ _ _ _ => N9)
                generalize hRR : treesN T n ((i :: j :: rest).drop (i' + 2)) = rights at *
                generalize hLL : treesN T n ((i :: j :: rest).take (i' + 1)) = lefts at hta
                have hat : atK T (treesN T n) (i :: j :: rest) i' = lefts.flatMap fun l => inner T x l rights := by rw [atK_eq hit hx, hLL, hRR]
                refine forG (M := (f, listOf ws.toArray k) :: (own ++ M)) (P := P2) [Str.ofString "right"] (fun a u Mx Qx => ∃ ws k, Mx = (f, listOf ws.toArray k) :: (own ++ M) ∧ (∀ p ∈ P2, p ∈ Qx) ∧ FJ f (own ++ M) Px ws ((bs ++ (List.range i').flatMap (atK T (treesN T n) (i :: j :: rest))) ++ (lefts.take a).flatMap (fun l => inner T x l rights)) Qx) rfl (fun i u Mx Qx hx => hx.elim fun _ hy => hy.elim fun _ hz => hz.2.1 _ hl) F9 N9 ⟨ws, k, rfl, sub0, by simpa using J2⟩ ?_ ?_
                · rintro a' v' u2 _ Qx h10 tk10 own2 hv2 ho2 hDD1 F10 N10
                  walk_at "norm"
                  obtain ⟨ws, k, rfl, hs10, HJ2⟩ := hDD1
                  (try clear F9); (try clear N9); (try clear F8); (try clear N8); (try clear N6); (try clear F5); (try clear F6)
                  obtain ⟨lt, hlt, htl⟩ := hta.at hv2
                  have N11 : News g1 L1 h10 ((f, listOf ws.toArray k) :: ((own2 ++ (own ++ M)) ++ Qx)) := nsub N10 (by (first | kpc_turns | (intro p hp; (try simp only [List.mem_append, List.mem_cons] at hp); (try simp only [List.mem_append, List.mem_cons]); (repeat' (with_reducible refine Or.elim hp (fun hp => ?_) (fun hp => ?_))); all_goals first | (simp only [hp, true_or, or_true]; done) | ((have hq := (by assumption : ∀ p ∈ _, p ∈ _) p hp); simp only [hq, true_or, or_true]; done) | ((have hq := (by assumption : ∀ p ∈ _, p ∈ _) p hp); (try simp only [List.mem_append, List.mem_cons] at hq); (repeat' (with_reducible refine Or.elim hq (fun hq => ?_) (fun hq => ?_))); all_goals (simp only [hq, true_or, or_true]; done)))))
                  clear N10
                  have HK := HJ2.enter ho2
                  have hoffB := HK.off
                  have hra3 := HJ2.gr.sub _ hra2
                  (repeat' (first | ((fail_if_success (with_reducible (first | refine tW ?_ | refine tI ?_ | refine tF ?_ | refine tC ?_ | refine tR 475 ?_ | refine tR 482 ?_ | refine tR 489 ?_ | refine tR 496 ?_ | refine tR 503 ?_ | refine tR 510 ?_))); first | ((with_reducible show WhileStep2 _ _ _ _ _ _ (Flow.ret _) _); dsimp only [WhileStep2]) | ((with_reducible show TurnP _ _ _ _ _ _ _ _ _ (Flow.ret _) _); dsimp only [TurnP]) | (k_unfold; (try dsimp only)) | (k_end; first | refine' next_q (by with_reducible assumption) ?_ | refine' ret_q (by with_reducible assumption) ?_ | refine' brk_q (by with_reducible assumption) ?_ | refine' cont_q (by with_reducible assumption) ?_) | (k_end; wrow_close) | walk1 | (dsimp only; walk1) | (leave1; walk_say "STEP leave1"; try dsimp only)) | fail "no step"))
                  (rename Fr _ _ _ _ => F11)
                  refine For_invVF F11 rfl rfl ?_
                  (repeat' (first | ((fail_if_success (with_reducible (first | refine tW ?_ | refine tI ?_ | refine tF ?_ | refine tC ?_ | refine tR 475 ?_ | refine tR 482 ?_ | refine tR 489 ?_ | refine tR 496 ?_ | refine tR 503 ?_ | refine tR 510 ?_))); first | ((with_reducible show WhileStep2 _ _ _ _ _ _ (Flow.ret _) _); dsimp only [WhileStep2]) | ((with_reducible show TurnP _ _ _ _ _ _ _ _ _ (Flow.ret _) _); dsimp only [TurnP]) | (k_unfold; (try dsimp only)) | (k_end; first | refine' next_q (by with_reducible assumption) ?_ | refine' ret_q (by with_reducible assumption) ?_ | refine' brk_q (by with_reducible assumption) ?_ | refine' cont_q (by with_reducible assumption) ?_) | (k_end; wrow_close) | walk1 | (dsimp only; walk1) | (leave1; walk_say "STEP leave1"; try dsimp only)) | fail "no step"))
                  (rename Fr _ _ _ _ => F12)
                  (rename News _ _ _ _ => N12)
                  rename_i D2 h12 l12
                  refine' IH.use ((f, listOf ws.toArray k) :: (own2 ++ (own ++ M))) ((D2, listOf (List.drop (1 + (i' : Int) + 1).toNat (v0 :: v1 :: ws1)).toArray 0) :: Qx) (T, (i :: j :: rest).drop (i' + 2)) (by k_asm) F12 (by k_asm) N12 (by (first | kpc_turns | (intro p hp; (try simp only [List.mem_append, List.mem_cons] at hp); (try simp only [List.mem_append, List.mem_cons]); (repeat' (with_reducible refine Or.elim hp (fun hp => ?_) (fun hp => ?_))); all_goals first | (simp only [hp, true_or, or_true]; done) | ((have hq := (by assumption : ∀ p ∈ _, p ∈ _) p hp); simp only [hq, true_or, or_true]; done) | ((have hq := (by assumption : ∀ p ∈ _, p ∈ _) p hp); (try simp only [List.mem_append, List.mem_cons] at hq); (repeat' (with_reducible refine Or.elim hq (fun hq => ?_) (fun hq => ?_))); all_goals (simp only [hq, true_or, or_true]; done))))) (by k_asm) rfl ⟨tv, _, rfl, hT.mono (fun p hp => .tail _ (HJ2.gr.sub p (HJ.gr.sub p hp))), ⟨D2, _, 0, rfl, .head _, by rw [show (1 + (i' : Int) + 1).toNat = i' + 2 by omega]; exact hwsA.drop _⟩, hvs.2, by simp only [List.length_drop, List.length_cons]; omega, by omega⟩ (by simp only [List.length_drop, List.length_cons] at hd ⊢; exact rm3 hd (Nat.sub_lt (Nat.succ_pos _) (Nat.succ_pos _))) (by simp only [List.length_drop, List.length_cons] at hu ⊢; exact un4 hu (Nat.sub_lt (Nat.succ_pos _) (Nat.succ_pos _))) ?_
                  rintro r P4 h13 tk13 F13 N13 hs13 hf13 hDD1
                  walk_at "norm"
                  refine el3 hDD1 ?_
                  clear hDD1
                  rintro lb lvb lnb ⟨rfl, hlb, htb⟩
                  clear F12 N12
                  dsimp only at htb
                  rw [hRR] at htb
                  have J4 := (HK.new (l12 _ (.head _)) (fun p hp => l12 p (.tail _ hp))).call ⟨hs13, hf13⟩
                  (repeat' (first | ((fail_if_success (with_reducible (first | refine tW ?_ | refine tI ?_ | refine tF ?_ | refine tC ?_ | refine tR 475 ?_ | refine tR 482 ?_ | refine tR 489 ?_ | refine tR 496 ?_ | refine tR 503 ?_ | refine tR 510 ?_))); first | ((with_reducible show WhileStep2 _ _ _ _ _ _ (Flow.ret _) _); dsimp only [WhileStep2]) | ((with_reducible show TurnP _ _ _ _ _ _ _ _ _ (Flow.ret _) _); dsimp only [TurnP]) | (k_unfold; (try dsimp only)) | (k_end; first | refine' next_q (by with_reducible assumption) ?_ | refine' ret_q (by with_reducible assumption) ?_ | refine' brk_q (by with_reducible assumption) ?_ | refine' cont_q (by with_reducible assumption) ?_) | (k_end; wrow_close) | walk1 | (dsimp only; walk1) | (leave1; walk_say "STEP leave1"; try dsimp only)) | fail "no step"))
                  (rename Fr _ _ _ _ => F14)
                  (rename News _ _ _ _ => N14)
                  generalize hab : bs ++ (List.range i').flatMap (atK T (treesN T n) (i :: j :: rest)) = ab at *
                  refine forG (M := (f, listOf ws.toArray k) :: (own2 ++ (own ++ M))) (P := P4) [] (fun b u Mx Rx => ∃ ws k, Mx = (f, listOf ws.toArray k) :: (own2 ++ (own ++ M)) ∧ (∀ p ∈ P4, p ∈ Rx) ∧ FJ f (own2 ++ (own ++ M)) Qx ws ((ab ++ (lefts.take a').flatMap (fun l => inner T x l rights)) ++ inner T x lt (rights.take b)) Rx) rfl (fun i u Mx Qx hx => hx.elim fun _ hy => hy.elim fun _ hz => hz.2.1 _ hlb) F14 N14 ⟨ws, k, rfl, sub0, by simpa [inner] using J4⟩ ?_ ?_
                  · rintro b' v3 u3 _ Rx h15 tk15 own3 hv3 ho3 hDD1 F15 N15
                    walk_at "norm"
                    obtain ⟨ws, k, rfl, hs15, HJ3⟩ := hDD1
                    (try clear F14); (try clear N14); (try clear F13); (try clear N13); (try clear N11); (try clear F10); (try clear F11)
                    obtain ⟨rt, hrt, htrr⟩ := htb.at hv3
                    have N16 : News g1 L1 h15 ((f, listOf ws.toArray k) :: ((own3 ++ (own2 ++ (own ++ M))) ++ Rx)) := nsub N15 (by (first | kpc_turns | (intro p hp; (try simp only [List.mem_append, List.mem_cons] at hp); (try simp only [List.mem_append, List.mem_cons]); (repeat' (with_reducible refine Or.elim hp (fun hp => ?_) (fun hp => ?_))); all_goals first | (simp only [hp, true_or, or_true]; done) | ((have hq := (by assumption : ∀ p ∈ _, p ∈ _) p hp); simp only [hq, true_or, or_true]; done) | ((have hq := (by assumption : ∀ p ∈ _, p ∈ _) p hp); (try simp only [List.mem_append, List.mem_cons] at hq); (repeat' (with_reducible refine Or.elim hq (fun hq => ?_) (fun hq => ?_))); all_goals (simp only [hq, true_or, or_true]; done)))))
                    clear N15
                    have HL := HJ3.enter ho3
                    have hoffC := HL.off
                    have hra4 := HJ3.gr.sub _ hra3
                    have hTR : TbIn PySem.Challenge.rw_np0230_01.row.prog w Rx tv T := hT.mono (fun p hp => HJ3.gr.sub p (HJ2.gr.sub p (HJ.gr.sub p hp)))
                    have htlR : TrIn Rx v' lt := htl.mono (fun p hp => HJ3.gr.sub p (hs10 p hp))
                    have htrR : TrIn Rx v3 rt := htrr.mono hs15
                    have hacl : ws.toArray.size ≤ sizeLine := by
                      have h1 := HJ3.are.length
                      have h2 := acc_room hbs (by omega) hit hx hLL.symm hRR.symm hlt (b := b')
                      rw [hab] at h2
                      rw [List.size_toArray, sizeLine_eq]; omega
                    have hszl : lt.size ≤ 100 := by
                      have := treesN_size T n _ _ (by rw [hLL]; exact List.mem_of_getElem? hlt)
                      simp only [List.length_take, List.length_cons] at this; omega
                    have hszr : rt.size ≤ 100 := by
                      have := treesN_size T n _ _ (by rw [hRR]; exact List.mem_of_getElem? hrt)
                      simp only [List.length_drop, List.length_cons] at this; omega
                    (repeat' (first | ((fail_if_success (with_reducible (first | refine tW ?_ | refine tI ?_ | refine tF ?_ | refine tC ?_ | refine tR 475 ?_ | refine tR 482 ?_ | refine tR 489 ?_ | refine tR 496 ?_ | refine tR 503 ?_ | refine tR 510 ?_))); first | ((with_reducible show WhileStep2 _ _ _ _ _ _ (Flow.ret _) _); dsimp only [WhileStep2]) | ((with_reducible show TurnP _ _ _ _ _ _ _ _ _ (Flow.ret _) _); dsimp only [TurnP]) | (k_unfold; (try dsimp only)) | (k_end; first | refine' next_q (by with_reducible assumption) ?_ | refine' ret_q (by with_reducible assumption) ?_ | refine' brk_q (by with_reducible assumption) ?_ | refine' cont_q (by with_reducible assumption) ?_) | (k_end; wrow_close) | walk1 | (dsimp only; walk1) | (leave1; walk_say "STEP leave1"; try dsimp only)) | fail "no step"))
                    refine' hBs.use ((f, listOf ws.toArray k) :: (own3 ++ (own2 ++ (own ++ M)))) Rx (T, x, lt, false) (by k_asm) (by k_asm) (by k_asm) N16 (by (first | kpc_turns | (intro p hp; (try simp only [List.mem_append, List.mem_cons] at hp); (try simp only [List.mem_append, List.mem_cons]); (repeat' (with_reducible refine Or.elim hp (fun hp => ?_) (fun hp => ?_))); all_goals first | (simp only [hp, true_or, or_true]; done) | ((have hq := (by assumption : ∀ p ∈ _, p ∈ _) p hp); simp only [hq, true_or, or_true]; done) | ((have hq := (by assumption : ∀ p ∈ _, p ∈ _) p hp); (try simp only [List.mem_append, List.mem_cons] at hq); (repeat' (with_reducible refine Or.elim hq (fun hq => ?_) (fun hq => ?_))); all_goals (simp only [hq, true_or, or_true]; done))))) (by k_asm) rfl ⟨tv, v', _, _, rfl, hTR, htlR, hszl⟩ (by simp only [List.length_cons] at hd ⊢; ktr_room) (by simp only [List.length_cons] at hu ⊢; ktr_units) ?_
                    rintro r P5 h17 tk17 F17 N17 hs17 hf17 rfl
                    clear N16 F15
                    have N18 : News g1 L1 h17 ((f, listOf ws.toArray k) :: ((own3 ++ (own2 ++ (own ++ M))) ++ P5)) := nsub N17 (by (first | kpc_turns | (intro p hp; (try simp only [List.mem_append, List.mem_cons] at hp); (try simp only [List.mem_append, List.mem_cons]); (repeat' (with_reducible refine Or.elim hp (fun hp => ?_) (fun hp => ?_))); all_goals first | (simp only [hp, true_or, or_true]; done) | ((have hq := (by assumption : ∀ p ∈ _, p ∈ _) p hp); simp only [hq, true_or, or_true]; done) | ((have hq := (by assumption : ∀ p ∈ _, p ∈ _) p hp); (try simp only [List.mem_append, List.mem_cons] at hq); (repeat' (with_reducible refine Or.elim hq (fun hq => ?_) (fun hq => ?_))); all_goals (simp only [hq, true_or, or_true]; done)))))
                    clear N17
                    have HL5 := HL.call ⟨hs17, hf17⟩
                    have hoffD := HL5.off
                    have hra5 := hs17 _ hra4
                    (repeat' (first | ((fail_if_success (with_reducible (first | refine tW ?_ | refine tI ?_ | refine tF ?_ | refine tC ?_ | refine tR 475 ?_ | refine tR 482 ?_ | refine tR 489 ?_ | refine tR 496 ?_ | refine tR 503 ?_ | refine tR 510 ?_))); first | ((with_reducible show WhileStep2 _ _ _ _ _ _ (Flow.ret _) _); dsimp only [WhileStep2]) | ((with_reducible show TurnP _ _ _ _ _ _ _ _ _ (Flow.ret _) _); dsimp only [TurnP]) | (k_unfold; (try dsimp only)) | (k_end; first | refine' next_q (by with_reducible assumption) ?_ | refine' ret_q (by with_reducible assumption) ?_ | refine' brk_q (by with_reducible assumption) ?_ | refine' cont_q (by with_reducible assumption) ?_) | (k_end; wrow_close) | walk1 | (dsimp only; walk1) | (leave1; walk_say "STEP leave1"; try dsimp only)) | fail "no step"))
                    rotate_left
                    · (rename _ = false => hno)
                      obtain ⟨hA, hB⟩ := HJ3.exit (o' := listOf ws.toArray k) ho3 HL5
                      exact ex5 _ _ _ ((f, listOf ws.toArray k) :: (own2 ++ (own ++ M))) _ ⟨rfl, by assumption, nsub N18 (by (first | kpc_turns | (intro p hp; (try simp only [List.mem_append, List.mem_cons] at hp); (try simp only [List.mem_append, List.mem_cons]); (repeat' (with_reducible refine Or.elim hp (fun hp => ?_) (fun hp => ?_))); all_goals first | (simp only [hp, true_or, or_true]; done) | ((have hq := (by assumption : ∀ p ∈ _, p ∈ _) p hp); simp only [hq, true_or, or_true]; done) | ((have hq := (by assumption : ∀ p ∈ _, p ∈ _) p hp); (try simp only [List.mem_append, List.mem_cons] at hq); (repeat' (with_reducible refine Or.elim hq (fun hq => ?_) (fun hq => ?_))); all_goals (simp only [hq, true_or, or_true]; done))))), hA, by (first | (intro z h1 h3; (repeat' (first | with_reducible rfl | with_reducible refine sm1 h1 ?_ | with_reducible refine sm2 h3 ?_ | with_reducible refine sm4 ?_ | with_reducible refine sm3 h3 (by kfm_turns) ?_)); done) | (intro z h1 h3; (try simp only [List.contains_cons, List.contains_nil, Bool.or_false, Bool.or_eq_false_iff, beq_eq_false_iff_ne, ne_eq] at h3); first | rfl | (simp [h1, h3]; done) | (simp_all; done))), ex2 ws k ⟨rfl, fun p hp => hs17 p (hs15 p hp), by rw [inner_no hrt (okb1 hno)]; exact hB⟩⟩

                    refine' hBs.use ((f, listOf ws.toArray k) :: (own3 ++ (own2 ++ (own ++ M)))) P5 (T, x, rt, true) (by k_asm) (by k_asm) (by k_asm) N18 (by (first | kpc_turns | (intro p hp; (try simp only [List.mem_append, List.mem_cons] at hp); (try simp only [List.mem_append, List.mem_cons]); (repeat' (with_reducible refine Or.elim hp (fun hp => ?_) (fun hp => ?_))); all_goals first | (simp only [hp, true_or, or_true]; done) | ((have hq := (by assumption : ∀ p ∈ _, p ∈ _) p hp); simp only [hq, true_or, or_true]; done) | ((have hq := (by assumption : ∀ p ∈ _, p ∈ _) p hp); (try simp only [List.mem_append, List.mem_cons] at hq); (repeat' (with_reducible refine Or.elim hq (fun hq => ?_) (fun hq => ?_))); all_goals (simp only [hq, true_or, or_true]; done))))) (by k_asm) rfl ⟨tv, v3, _, _, rfl, hTR.mono hs17, htrR.mono hs17, hszr⟩ (by simp only [List.length_cons] at hd ⊢; ktr_room) (by simp only [List.length_cons] at hu ⊢; ktr_units) ?_
                    rintro r P6 h19 tk19 F19 N19 hs19 hf19 rfl
                    clear N18 F17
                    have N20 : News g1 L1 h19 ((f, listOf ws.toArray k) :: ((own3 ++ (own2 ++ (own ++ M))) ++ P6)) := nsub N19 (by (first | kpc_turns | (intro p hp; (try simp only [List.mem_append, List.mem_cons] at hp); (try simp only [List.mem_append, List.mem_cons]); (repeat' (with_reducible refine Or.elim hp (fun hp => ?_) (fun hp => ?_))); all_goals first | (simp only [hp, true_or, or_true]; done) | ((have hq := (by assumption : ∀ p ∈ _, p ∈ _) p hp); simp only [hq, true_or, or_true]; done) | ((have hq := (by assumption : ∀ p ∈ _, p ∈ _) p hp); (try simp only [List.mem_append, List.mem_cons] at hq); (repeat' (with_reducible refine Or.elim hq (fun hq => ?_) (fun hq => ?_))); all_goals (simp only [hq, true_or, or_true]; done)))))
                    clear N19
                    have HL6 := HL5.call ⟨hs19, hf19⟩
                    have hoffE := HL6.off
                    have hra6 := hs19 _ hra5
                    (repeat' (first | ((fail_if_success (with_reducible (first | refine tW ?_ | refine tI ?_ | refine tF ?_ | refine tC ?_ | refine tR 475 ?_ | refine tR 482 ?_ | refine tR 489 ?_ | refine tR 496 ?_ | refine tR 503 ?_ | refine tR 510 ?_))); first | ((with_reducible show WhileStep2 _ _ _ _ _ _ (Flow.ret _) _); dsimp only [WhileStep2]) | ((with_reducible show TurnP _ _ _ _ _ _ _ _ _ (Flow.ret _) _); dsimp only [TurnP]) | (k_unfold; (try dsimp only)) | (k_end; first | refine' next_q (by with_reducible assumption) ?_ | refine' ret_q (by with_reducible assumption) ?_ | refine' brk_q (by with_reducible assumption) ?_ | refine' cont_q (by with_reducible assumption) ?_) | (k_end; wrow_close) | walk1 | (dsimp only; walk1) | (leave1; walk_say "STEP leave1"; try dsimp only)) | fail "no step"))
                    rotate_left
                    · (rename _ = false => hno)
                      obtain ⟨hA, hB⟩ := HJ3.exit (o' := listOf ws.toArray k) ho3 HL6
                      exact ex5 _ _ _ ((f, listOf ws.toArray k) :: (own2 ++ (own ++ M))) _ ⟨rfl, by assumption, nsub N20 (by (first | kpc_turns | (intro p hp; (try simp only [List.mem_append, List.mem_cons] at hp); (try simp only [List.mem_append, List.mem_cons]); (repeat' (with_reducible refine Or.elim hp (fun hp => ?_) (fun hp => ?_))); all_goals first | (simp only [hp, true_or, or_true]; done) | ((have hq := (by assumption : ∀ p ∈ _, p ∈ _) p hp); simp only [hq, true_or, or_true]; done) | ((have hq := (by assumption : ∀ p ∈ _, p ∈ _) p hp); (try simp only [List.mem_append, List.mem_cons] at hq); (repeat' (with_reducible refine Or.elim hq (fun hq => ?_) (fun hq => ?_))); all_goals (simp only [hq, true_or, or_true]; done))))), hA, by (first | (intro z h1 h3; (repeat' (first | with_reducible rfl | with_reducible refine sm1 h1 ?_ | with_reducible refine sm2 h3 ?_ | with_reducible refine sm4 ?_ | with_reducible refine sm3 h3 (by kfm_turns) ?_)); done) | (intro z h1 h3; (try simp only [List.contains_cons, List.contains_nil, Bool.or_false, Bool.or_eq_false_iff, beq_eq_false_iff_ne, ne_eq] at h3); first | rfl | (simp [h1, h3]; done) | (simp_all; done))), ex2 ws k ⟨rfl, fun p hp => hs19 p (hs17 p (hs15 p hp)), by rw [inner_no hrt (okb2 hno)]; exact hB⟩⟩

                    refine' hSg.use ((f, listOf ws.toArray k) :: (own3 ++ (own2 ++ (own ++ M)))) P6 (T, x, rt) (by k_asm) (by k_asm) (by k_asm) N20 (by (first | kpc_turns | (intro p hp; (try simp only [List.mem_append, List.mem_cons] at hp); (try simp only [List.mem_append, List.mem_cons]); (repeat' (with_reducible refine Or.elim hp (fun hp => ?_) (fun hp => ?_))); all_goals first | (simp only [hp, true_or, or_true]; done) | ((have hq := (by assumption : ∀ p ∈ _, p ∈ _) p hp); simp only [hq, true_or, or_true]; done) | ((have hq := (by assumption : ∀ p ∈ _, p ∈ _) p hp); (try simp only [List.mem_append, List.mem_cons] at hq); (repeat' (with_reducible refine Or.elim hq (fun hq => ?_) (fun hq => ?_))); all_goals (simp only [hq, true_or, or_true]; done))))) (by k_asm) rfl ⟨tv, _, v3, rfl, (hTR.mono hs17).mono hs19, (htrR.mono hs17).mono hs19⟩ (by simp only [List.length_cons] at hd ⊢; ktr_room) (by simp only [List.length_cons] at hu ⊢; ktr_units) ?_
                    rintro r P7 h21 tk21 F21 N21 hs21 hf21 rfl
                    clear N20 F19
                    have N22 : News g1 L1 h21 ((f, listOf ws.toArray k) :: ((own3 ++ (own2 ++ (own ++ M))) ++ P7)) := nsub N21 (by (first | kpc_turns | (intro p hp; (try simp only [List.mem_append, List.mem_cons] at hp); (try simp only [List.mem_append, List.mem_cons]); (repeat' (with_reducible refine Or.elim hp (fun hp => ?_) (fun hp => ?_))); all_goals first | (simp only [hp, true_or, or_true]; done) | ((have hq := (by assumption : ∀ p ∈ _, p ∈ _) p hp); simp only [hq, true_or, or_true]; done) | ((have hq := (by assumption : ∀ p ∈ _, p ∈ _) p hp); (try simp only [List.mem_append, List.mem_cons] at hq); (repeat' (with_reducible refine Or.elim hq (fun hq => ?_) (fun hq => ?_))); all_goals (simp only [hq, true_or, or_true]; done)))))
                    clear N21
                    have HL7 := HL6.call ⟨hs21, hf21⟩
                    have hoffF := HL7.off
                    have hra7 := hs21 _ hra6
                    (repeat' (first | ((fail_if_success (with_reducible (first | refine tW ?_ | refine tI ?_ | refine tF ?_ | refine tC ?_ | refine tR 475 ?_ | refine tR 482 ?_ | refine tR 489 ?_ | refine tR 496 ?_ | refine tR 503 ?_ | refine tR 510 ?_))); first | ((with_reducible show WhileStep2 _ _ _ _ _ _ (Flow.ret _) _); dsimp only [WhileStep2]) | ((with_reducible show TurnP _ _ _ _ _ _ _ _ _ (Flow.ret _) _); dsimp only [TurnP]) | (k_unfold; (try dsimp only)) | (k_end; first | refine' next_q (by with_reducible assumption) ?_ | refine' ret_q (by with_reducible assumption) ?_ | refine' brk_q (by with_reducible assumption) ?_ | refine' cont_q (by with_reducible assumption) ?_) | (k_end; wrow_close) | walk1 | (dsimp only; walk1) | (leave1; walk_say "STEP leave1"; try dsimp only)) | fail "no step"))
                    rotate_left
                    · (rename _ = false => hno)
                      obtain ⟨hA, hB⟩ := HJ3.exit (o' := listOf ws.toArray k) ho3 HL7
                      exact ex5 _ _ _ ((f, listOf ws.toArray k) :: (own2 ++ (own ++ M))) _ ⟨rfl, by assumption, nsub N22 (by (first | kpc_turns | (intro p hp; (try simp only [List.mem_append, List.mem_cons] at hp); (try simp only [List.mem_append, List.mem_cons]); (repeat' (with_reducible refine Or.elim hp (fun hp => ?_) (fun hp => ?_))); all_goals first | (simp only [hp, true_or, or_true]; done) | ((have hq := (by assumption : ∀ p ∈ _, p ∈ _) p hp); simp only [hq, true_or, or_true]; done) | ((have hq := (by assumption : ∀ p ∈ _, p ∈ _) p hp); (try simp only [List.mem_append, List.mem_cons] at hq); (repeat' (with_reducible refine Or.elim hq (fun hq => ?_) (fun hq => ?_))); all_goals (simp only [hq, true_or, or_true]; done))))), hA, by (first | (intro z h1 h3; (repeat' (first | with_reducible rfl | with_reducible refine sm1 h1 ?_ | with_reducible refine sm2 h3 ?_ | with_reducible refine sm4 ?_ | with_reducible refine sm3 h3 (by kfm_turns) ?_)); done) | (intro z h1 h3; (try simp only [List.contains_cons, List.contains_nil, Bool.or_false, Bool.or_eq_false_iff, beq_eq_false_iff_ne, ne_eq] at h3); first | rfl | (simp [h1, h3]; done) | (simp_all; done))), ex2 ws k ⟨rfl, fun p hp => hs21 p (hs19 p (hs17 p (hs15 p hp))), by rw [inner_no hrt (okb3 hno)]; exact hB⟩⟩

                    (rename _ = true => hyes3)
                    (rename _ ∧ AllLt _ _ => hlt9)
                    rename_i D9 _ _ _ N29
                    rw [List.push_toArray] at N29
                    have HZ := (HL7.newN N29 hlt9).push (v := Value.ref D9) (.bin (.head _) (htlR.mono fun p hp => .tail _ (hs21 p (hs19 p (hs17 p hp)))) (htrR.mono fun p hp => .tail _ (hs21 p (hs19 p (hs17 p hp)))))
                    obtain ⟨hA, hB⟩ := HJ3.exit (o' := listOf (ws ++ [Value.ref D9]).toArray (k + 1)) ho3 HZ
                    exact ex5 _ _ _ ((f, listOf (ws ++ [Value.ref D9]).toArray (k + 1)) :: (own2 ++ (own ++ M))) _ ⟨rfl, by assumption, nsub N29 (by (first | kpc_turns | (intro p hp; (try simp only [List.mem_append, List.mem_cons] at hp); (try simp only [List.mem_append, List.mem_cons]); (repeat' (with_reducible refine Or.elim hp (fun hp => ?_) (fun hp => ?_))); all_goals first | (simp only [hp, true_or, or_true]; done) | ((have hq := (by assumption : ∀ p ∈ _, p ∈ _) p hp); simp only [hq, true_or, or_true]; done) | ((have hq := (by assumption : ∀ p ∈ _, p ∈ _) p hp); (try simp only [List.mem_append, List.mem_cons] at hq); (repeat' (with_reducible refine Or.elim hq (fun hq => ?_) (fun hq => ?_))); all_goals (simp only [hq, true_or, or_true]; done))))), hA, by (first | (intro z h1 h3; (repeat' (first | with_reducible rfl | with_reducible refine sm1 h1 ?_ | with_reducible refine sm2 h3 ?_ | with_reducible refine sm4 ?_ | with_reducible refine sm3 h3 (by kfm_turns) ?_)); done) | (intro z h1 h3; (try simp only [List.contains_cons, List.contains_nil, Bool.or_false, Bool.or_eq_false_iff, beq_eq_false_iff_ne, ne_eq] at h3); first | rfl | (simp [h1, h3]; done) | (simp_all; done))), ex2 (ws ++ [Value.ref D9]) (k + 1) ⟨rfl, fun p hp => .tail _ (hs21 p (hs19 p (hs17 p (hs15 p hp)))), by rw [inner_yes hrt (okb4 (by assumption) (by assumption) hyes3)]; simpa only [List.append_assoc] using hB⟩⟩
                  · rintro u3 _ Rx h15 tk15 hDD1 F15 N15
                    walk_at "norm"
                    obtain ⟨ws, k, rfl, hs15, HJ3⟩ := hDD1
                    (try clear F14); (try clear N14); (try clear F13); (try clear N13); (try clear N11); (try clear F10); (try clear F11)
                    (repeat' (first | ((fail_if_success (with_reducible (first | refine tW ?_ | refine tI ?_ | refine tF ?_ | refine tC ?_ | refine tR 475 ?_ | refine tR 482 ?_ | refine tR 489 ?_ | refine tR 496 ?_ | refine tR 503 ?_ | refine tR 510 ?_))); first | ((with_reducible show WhileStep2 _ _ _ _ _ _ (Flow.ret _) _); dsimp only [WhileStep2]) | ((with_reducible show TurnP _ _ _ _ _ _ _ _ _ (Flow.ret _) _); dsimp only [TurnP]) | (k_unfold; (try dsimp only)) | (k_end; first | refine' next_q (by with_reducible assumption) ?_ | refine' ret_q (by with_reducible assumption) ?_ | refine' brk_q (by with_reducible assumption) ?_ | refine' cont_q (by with_reducible assumption) ?_) | (k_end; wrow_close) | walk1 | (dsimp only; walk1) | (leave1; walk_say "STEP leave1"; try dsimp only)) | fail "no step"))
                    subst hab
                    obtain ⟨hA, hB⟩ := HJ2.exit (o' := listOf ws.toArray k) ho2 HJ3
                    exact ex5 _ _ _ ((f, listOf ws.toArray k) :: (own ++ M)) _ ⟨rfl, by assumption, nsub N15 (by (first | kpc_turns | (intro p hp; (try simp only [List.mem_append, List.mem_cons] at hp); (try simp only [List.mem_append, List.mem_cons]); (repeat' (with_reducible refine Or.elim hp (fun hp => ?_) (fun hp => ?_))); all_goals first | (simp only [hp, true_or, or_true]; done) | ((have hq := (by assumption : ∀ p ∈ _, p ∈ _) p hp); simp only [hq, true_or, or_true]; done) | ((have hq := (by assumption : ∀ p ∈ _, p ∈ _) p hp); (try simp only [List.mem_append, List.mem_cons] at hq); (repeat' (with_reducible refine Or.elim hq (fun hq => ?_) (fun hq => ?_))); all_goals (simp only [hq, true_or, or_true]; done))))), hA, by (first | (intro z h1 h3; (repeat' (first | with_reducible rfl | with_reducible refine sm1 h1 ?_ | with_reducible refine sm2 h3 ?_ | with_reducible refine sm4 ?_ | with_reducible refine sm3 h3 (by kfm_turns) ?_)); done) | (intro z h1 h3; (try simp only [List.contains_cons, List.contains_nil, Bool.or_false, Bool.or_eq_false_iff, beq_eq_false_iff_ne, ne_eq] at h3); first | rfl | (simp [h1, h3]; done) | (simp_all; done))), ex2 ws k ⟨rfl, fun p hp => hs15 p (hs13 p (.tail _ (hs10 p hp))), by rw [take_snoc _ hlt, ← List.append_assoc]; rw [htb.length, List.take_length] at hB; exact hB⟩⟩
                · rintro u2 _ Qx h10 tk10 hDD1 F10 N10
                  walk_at "norm"
                  obtain ⟨ws, k, rfl, hs10, HJ2⟩ := hDD1
                  (try clear F9); (try clear N9); (try clear F8); (try clear N8); (try clear N6); (try clear F5); (try clear F6)
                  (repeat' (first | ((fail_if_success (with_reducible (first | refine tW ?_ | refine tI ?_ | refine tF ?_ | refine tC ?_ | refine tR 475 ?_ | refine tR 482 ?_ | refine tR 489 ?_ | refine tR 496 ?_ | refine tR 503 ?_ | refine tR 510 ?_))); first | ((with_reducible show WhileStep2 _ _ _ _ _ _ (Flow.ret _) _); dsimp only [WhileStep2]) | ((with_reducible show TurnP _ _ _ _ _ _ _ _ _ (Flow.ret _) _); dsimp only [TurnP]) | (k_unfold; (try dsimp only)) | (k_end; first | refine' next_q (by with_reducible assumption) ?_ | refine' ret_q (by with_reducible assumption) ?_ | refine' brk_q (by with_reducible assumption) ?_ | refine' cont_q (by with_reducible assumption) ?_) | (k_end; wrow_close) | walk1 | (dsimp only; walk1) | (leave1; walk_say "STEP leave1"; try dsimp only)) | fail "no step"))
                  obtain ⟨hA, hB⟩ := HJ.exit (o' := listOf ws.toArray k) ho HJ2
                  exact ex5 _ _ _ ((f, listOf ws.toArray k) :: M) _ ⟨rfl, by assumption, nsub N10 (by (first | kpc_turns | (intro p hp; (try simp only [List.mem_append, List.mem_cons] at hp); (try simp only [List.mem_append, List.mem_cons]); (repeat' (with_reducible refine Or.elim hp (fun hp => ?_) (fun hp => ?_))); all_goals first | (simp only [hp, true_or, or_true]; done) | ((have hq := (by assumption : ∀ p ∈ _, p ∈ _) p hp); simp only [hq, true_or, or_true]; done) | ((have hq := (by assumption : ∀ p ∈ _, p ∈ _) p hp); (try simp only [List.mem_append, List.mem_cons] at hq); (repeat' (with_reducible refine Or.elim hq (fun hq => ?_) (fun hq => ?_))); all_goals (simp only [hq, true_or, or_true]; done))))), hA, by (first | (intro z h1 h3; (repeat' (first | with_reducible rfl | with_reducible refine sm1 h1 ?_ | with_reducible refine sm2 h3 ?_ | with_reducible refine sm4 ?_ | with_reducible refine sm3 h3 (by kfm_turns) ?_)); done) | (intro z h1 h3; (try simp only [List.contains_cons, List.contains_nil, Bool.or_false, Bool.or_eq_false_iff, beq_eq_false_iff_ne, ne_eq] at h3); first | rfl | (simp [h1, h3]; done) | (simp_all; done))), ex2 ws k ⟨rfl, by rw [range_snoc, hat, ← List.append_assoc]; rw [hta.length, List.take_length] at hB; exact hB⟩⟩
          · rintro u' _ Px h6 tk6 hDD1 F5 N5
            walk_at "norm"
            obtain ⟨ws, k, rfl, HJ⟩ := hDD1
            (try clear F4); (try clear N4)
            (repeat' (first | ((fail_if_success (with_reducible (first | refine tW ?_ | refine tI ?_ | refine tF ?_ | refine tC ?_ | refine tR 475 ?_ | refine tR 482 ?_ | refine tR 489 ?_ | refine tR 496 ?_ | refine tR 503 ?_ | refine tR 510 ?_))); first | ((with_reducible show WhileStep2 _ _ _ _ _ _ (Flow.ret _) _); dsimp only [WhileStep2]) | ((with_reducible show TurnP _ _ _ _ _ _ _ _ _ (Flow.ret _) _); dsimp only [TurnP]) | (k_unfold; (try dsimp only)) | (k_end; first | refine' next_q (by with_reducible assumption) ?_ | refine' ret_q (by with_reducible assumption) ?_ | refine' brk_q (by with_reducible assumption) ?_ | refine' cont_q (by with_reducible assumption) ?_) | (k_end; wrow_close) | walk1 | (dsimp only; walk1) | (leave1; walk_say "STEP leave1"; try dsimp only)) | fail "no step"))
            refine hret _ _ _ _ (by assumption) (nsub (by assumption) mv1) (fun p hp => .tail _ (HJ.gr.sub p hp)) (HJ.gr.fr.cons l1) ⟨f, ws, k, rfl, .head _, ?_⟩
            have h := HJ.are.mono (sub1 (x := (f, listOf ws.toArray k)))
            rw [← hbs] at h
            simpa only [treesN] using h)
theorem trees_spec (w : World) (hBs : BesideS w) (hMl : MinusS w) (hSg : SignedS w) : ∀ n, TreesS w n
  | 0 => by
    unfold TreesS Spec
    rintro mean mg mb dp un gd cn cs a ccd cl outer A₀ base h₀ L m M P s vs ⟨T, l⟩ Q E B F X N TT hk hDD1 hd hu hret
    obtain ⟨tv, rv, rfl, hT, hl, hv, hz, hn⟩ := hDD1
    cases l with
    | nil => exact absurd hv Bool.false_ne_true
    | cons _ _ => exact absurd hz (by simp)
  | n + 1 => trees_step w hBs hMl hSg n (trees_spec w hBs hMl hSg n)


end
section
theorem sz0 : PySem.Str.length (PySem.Str.ofString "") ≤ sizeLine := by rw [sizeLine_eq]; decide +kernel
local macro_rules | `(tactic| size_fits) => `(tactic| with_reducible exact sz0)
-- ## an exception class of the text's own whose __init__ stands in its base
section
variable {M : Model} {A : Around} {E : Value → Shared → Prop} {h : Heap} {g : Array GenState} {d : Drawn} {t : Nat} {os : OsState}
variable {nm q : Str} {C N : Addr} {bs bm bmN : List Value} {hdct : Bool} {sn : List Str} {sub : List Value} {ab : Bool} {col : Option Bool} {dd : Option Addr} {k0 k1 k2 k3 k5 : Option Value} {Bn newId inN : String}
theorem fx_check_new (Fn : ExcBaseFacts Bn newId inN bmN) (hcont : (Value.ref C :: bm).contains (.type Bn) = true) {rest : List Value} {Q : Unit → Shared → Prop} (hC : h.get? C = some (excClassObj nm q C N bs bm hdct sn sub ab col dd k0 k1 k2 k3 k5 newId))
    (hq : Q () ⟨h, g, d, t, os⟩) : wpAny M A (checkBuiltinCall newId ⟨.ref C :: rest, []⟩) Q E ⟨h, g, d, t, os⟩ := by
  have hstar := Fn.noStar
  unfold checkBuiltinCall
  rw [Fn.newKind]
  dsimp only
  rw [Fn.newSplit]
  dsimp only
  rw [Fn.newRow]
  dsimp only
  repeat (first | refine wpAny_loadPart_at hC ?_ | (refine wpAny_isSubtype_exc hC ?_; rw [hcont]) | refine wpAny_staticBase_exc hC ?_ | refine wpAny_madeBy_exc hC ?_ | simp only [bne_self_eq_false, Bool.false_eq_true, if_false] | wp_step)
  exact hq
end
section
variable {prog : Program} {w : World} {A : Around} {R : PySem.Result → Shared → Prop} {E : Value → Shared → Prop} {h : Heap} {g : Array GenState} {d : Drawn} {t : Nat} {os : OsState}
variable {nm q : Str} {C N : Addr} {bs bm bmN : List Value} {hdct : Bool} {sn : List Str} {sub : List Value} {ab : Bool} {col : Option Bool} {dd : Option Addr} {k0 k1 k2 k3 k5 : Option Value} {Bn newId inN : String}
theorem fx_new (Fn : ExcBaseFacts Bn newId inN bmN) (hcB : (Value.ref C :: bm).contains (.type Bn) = true) (hcA : (Value.ref C :: bm).contains (.type "AttributeError") = false) (hcN : (Value.ref C :: bm).contains (.type "NameError") = false)
    {rest : List Value} (hC : h.get? C = some (excClassObj nm q C N bs bm hdct sn sub ab col dd k0 k1 k2 k3 k5 newId))
    (hq : R (.ok (.ret (.ref (h.objs.size + 1)))) ⟨(h.push { cls := .type "tuple", data := .seq rest.toArray }).push
      { cls := .ref C, data := .fields #[.ref h.objs.size, .none, .none, .none, .bool false, .none] }, g, d, t, os⟩) (hrest : rest.length ≤ sizeLine) :
    codeAny (model prog w) A (.builtin newId ⟨.ref C :: rest, []⟩) R ⟨h, g, d, t, os⟩ := by
  have hends := Fn.ends
  refine codeAny_builtinAt Fn.entry ?_
  unfold Builtin.«BaseException.__new__»
  refine PySem.wpAt_bind ?_
  show PySem.wpAt _ _ _ (stack >>= _) _ _ _
  refine PySem.wpAt_bind (PySem.wpAt_stack fun p below => PySem.wpAt_of_wpAny ?_)
  wp_walk
  refine PySem.wpAt_of_wpAny ?_
  rw [Fn.owner]
  repeat (first | with_reducible refine wpAny_madeHere_exc Fn.canon hC ?_ | with_reducible refine wpAny_loadPart_at hC ?_ | (with_reducible refine wpAny_isSubtype_exc hC ?_; first | rw [hcB] | rw [hcA] | rw [hcN]) | wp_step)
  show R _ _
  rw [Heap.size_push]
  exact hq
abbrev fxObj (C t : Addr) (dd : Option Addr) : Obj := { cls := .ref C, dict := dd, data := .fields #[.ref t, .none, .none, .none, .bool false, .none] }
theorem fx_type_call {K : Frag} (X : K.In h) (Fn : ExcBaseFacts Bn newId inN bmN) (hcB : (Value.ref C :: bm).contains (.type Bn) = true) (hcA : (Value.ref C :: bm).contains (.type "AttributeError") = false) (hcN : (Value.ref C :: bm).contains (.type "NameError") = false)
    {rest : List Value} {fI : Addr} {oI : Obj} {Q : Fin → Shared → Prop}
    (hC : h.get? C = some (excClassObj nm q C N bs bm hdct sn sub ab col dd k0 k1 k2 k3 k5 newId)) (hi : findIn K (.ref C) "__init__" = some (some (.ref fI)))
    (hfI : h.get? fI = some oI) (hfc : oI.cls = .type "function")
    (hq : ∀ h' e t', h'.get? e = some (fxObj C t' none) → h'.get? t' = some { cls := .type "tuple", data := .seq rest.toArray } → h.get? e = none → h.get? t' = none → (∀ b o, h.get? b = some o → h'.get? b = some o) → t' < e → h.objs.size ≤ t' → e < h'.objs.size →
      wpAny (model prog w) A (call (.ref fI) (.ref e :: rest)) (fun r s' => r = .none ∧ Q (.done (.ret (.ref e))) s') E ⟨h', g, d, t, os⟩) (hrest : rest.length ≤ sizeLine) :
    wpAny (model prog w) A (Builtin.«type.__call__» ⟨.ref C :: rest, []⟩) Q E ⟨h, g, d, t, os⟩ := by
  repeat (first | with_reducible refine wpAny_loadPart_at hC ?_ | with_reducible refine wpAny_madeBy_exc hC ?_ | wp_step)
  refine codeAny_call_builtin_code (Code.quiet_builtin _ Fn.quiet) (fx_check_new Fn hcB hC ?_)
  refine fx_new Fn hcB hcA hcN hC ?_ hrest
  show wpAny _ _ _ _ _ _
  have keep : ∀ b o, h.get? b = some o → ((h.push { cls := .type "tuple", data := .seq rest.toArray }).push { cls := .ref C, data := .fields #[.ref h.objs.size, .none, .none, .none, .bool false, .none] }).get? b = some o :=
    fun b o e => Heap.get?_push_of_some _ (Heap.get?_push_of_some _ e)
  have hC₁ := keep _ _ hC
  have hget : ((h.push { cls := .type "tuple", data := .seq rest.toArray }).push
      { cls := .ref C, data := .fields #[.ref h.objs.size, .none, .none, .none, .bool false, .none] }).get? (h.objs.size + 1) = some
      { cls := .ref C, data := .fields #[.ref h.objs.size, .none, .none, .none, .bool false, .none] } := by heap_get
  have hcC : (Value.ref C :: bm).contains (.ref C) = true := by simp
  unfold isInstance
  repeat (first | with_reducible refine wpAny_loadPart_at hget ?_ | (with_reducible refine wpAny_isSubtype_exc hC₁ ?_; rw [hcC]) | wp_step)
  show wpAny _ _ (typeLookup (.ref C) _) _ _ _
  refine (looks_findIn (X.keeps keep) hi).here ?_
  refine wpAny_holding (wpAny_bind ?_)
  unfold bindSpecial
  refine wpAny_bind (wpAny_typeOf (T := "function") ⟨_, keep _ _ hfI, hfc⟩ ?_)
  rw [if_pos (by decide)]
  refine wpAny_pure (wpAny_bind (wpAny_mono (hq _ (h.objs.size + 1) h.objs.size hget ?_ (Heap.get?_none_of_le (Nat.le_succ _)) (Heap.get?_none_of_le (Nat.le_refl _)) keep (Nat.lt_succ_self _) (Nat.le_refl _) ?_) (fun r s' hr => ?_) fun _ _ x => x))
  · exact Heap.get?_push_of_some _ (Heap.get?_push_at rfl rfl)
  · rw [Heap.size_push, Heap.size_push]; exact Nat.lt_succ_self _
  · obtain ⟨rfl, hQ⟩ := hr
    wp_walk
    exact hQ
theorem fx_call {K : Frag} (X : K.In h) (Fn : ExcBaseFacts Bn newId inN bmN) (hcB : (Value.ref C :: bm).contains (.type Bn) = true) (hcA : (Value.ref C :: bm).contains (.type "AttributeError") = false) (hcN : (Value.ref C :: bm).contains (.type "NameError") = false)
    {rest : List Value} {fI : Addr} {oI : Obj} {Q : Value → Shared → Prop}
    (hC : h.get? C = some (excClassObj nm q C N bs bm hdct sn sub ab col dd k0 k1 k2 k3 k5 newId)) (hi : findIn K (.ref C) "__init__" = some (some (.ref fI)))
    (hfI : h.get? fI = some oI) (hfc : oI.cls = .type "function")
    (hq : ∀ h' e t', h'.get? e = some (fxObj C t' none) → h'.get? t' = some { cls := .type "tuple", data := .seq rest.toArray } → h.get? e = none → h.get? t' = none → (∀ b o, h.get? b = some o → h'.get? b = some o) → t' < e → h.objs.size ≤ t' → e < h'.objs.size →
      wpAny (model prog w) (A.under (.builtin "type.__call__" ⟨.ref C :: rest, []⟩)) (call (.ref fI) (.ref e :: rest)) (fun r s' => r = .none ∧ Q (.ref e) s') E ⟨h', g, d, t, os⟩) (hrest : rest.length ≤ sizeLine) :
    wpAny (model prog w) A (call (.ref C) rest) Q E ⟨h, g, d, t, os⟩ := by
  have f1 := tc_lookup
  have f2 := tc_bind (.ref C)
  have hT : (⟨h, g, d, t, os⟩ : Shared).TypeIs (.ref C) "type" := ⟨_, hC, rfl⟩
  refine wpAny_call (codeAny_of_tree ?_)
  show wpAny _ _ (callAny (.ref C) _) _ _ _
  repeat (any_goals (first | assumption | with_reducible refine wpAny_loadPart_at hC ?_ | wp_step))
  refine ⟨rfl, ?_⟩
  exact codeAny_call_builtin_at (Code.quiet_builtin _ (by decide +kernel)) entry_typeCall (wpAny_check_type_call_sub hC (fx_type_call X Fn hcB hcA hcN hC hi hfI hfc hq hrest))
end
section
variable {prog : Program} {w : World} {A : Around} {E : Value → Shared → Prop} {h : Heap} {g : Array GenState} {d : Drawn} {t : Nat} {os : OsState}
variable {nm q : Str} {C C2 N x : Addr} {bs bmB : List Value} {sn : List Str} {sub : List Value} {ab : Bool} {col : Option Bool} {dd : Option Addr} {k0 k1 k2 k3 k5 : Option Value} {B newId initId sa owner : String}
  {mA : Str → Option Value} {name : Str} {v : Value} {K : Frag}
theorem fx_check_sa {M : Model} {o : Obj} {nameV : Value} {Q : Unit → Shared → Prop} (SF : StoreFacts B bmB sa owner)
    (hC : h.get? C = some (excClassObj nm q C N bs (.ref C2 :: bmB) true sn sub ab col dd k0 k1 k2 k3 k5 newId)) (hx : h.get? x = some o) (hc : o.cls = .ref C) (hq : Q () ⟨h, g, d, t, os⟩) :
    wpAny M A (checkBuiltinCall sa ⟨[.ref x, nameV, v], []⟩) Q E ⟨h, g, d, t, os⟩ := by
  have hcB : (Value.ref C :: .ref C2 :: bmB).contains (.type owner) = true := by rw [List.contains_cons, List.contains_cons, SF.hasOwner, Bool.or_true, Bool.or_true]
  have ha := SF.args (.ref x) nameV v
  simp only [checkBuiltinCall, SF.kind, SF.split]
  refine wpAny_bind ?_
  · unfold isInstance
    repeat (first | (with_reducible refine wpAny_loadPart_at hx ?_; rw [hc]) | (with_reducible refine wpAny_isSubtype_exc hC ?_; rw [hcB]) | wp_step)
    cases hsig : Manifest.signature? sa with
    | none => exact wpAny_pure hq
    | some sig =>
      simp only [argsOk, hsig] at ha
      have h2 : Bind.checkArgs sa sig ⟨[.ref x, nameV, v], []⟩ = pure () := ha
      show wpAny M A (Bind.checkArgs sa sig ⟨[.ref x, nameV, v], []⟩) Q E _
      rw [h2]; exact wpAny_pure hq
theorem fx_store {tk : Tok} {Q : PySem.Fin → Shared → Prop} {ns : List Str} {o : Obj} (X : K.In h) (SF : StoreFacts B bmB sa owner)
    (hC : h.get? C = some (excClassObj nm q C N bs (.ref C2 :: bmB) true sn sub ab col dd k0 k1 k2 k3 k5 newId)) (hl : findIn K (.ref C) name = some none)
    (hx : h.get? x = some o) (hc : o.cls = .ref C) (hnc : ∀ c, o.data ≠ .cls c) (hd : (o.dict = none ∧ ∀ n, mA n = none) ∨ ∃ d, o.dict = some d ∧ d ≠ x ∧ h.Ns1 d mA)
    (hq : ∀ h' tk' dx, (o.dict = some dx ∨ (o.dict = none ∧ dx = h.objs.size)) → h'.get? x = some { o with dict := some dx } → dx ≠ x → h'.Ns1 dx (fun y => if y = name then some v else mA y) →
      (∀ b ob, b ≠ x → b ≠ dx → h.get? b = some ob → h'.get? b = some ob) → Q (.done (.ret .none)) ⟨h', g, d, tk', os⟩) (hw : Within mA ns) (hsz : ns.length ≤ 10) :
    wpAny (model prog w) A (Builtin.«object.__setattr__» ⟨[.ref x, .str name tk, v], []⟩) Q E ⟨h, g, d, t, os⟩ := by
  have hpass := SF.passes (.ref x)
  unfold Builtin.«object.__setattr__»
  repeat (first | rw [refuse_eq] | (rw [refuseLoop_ref, refuseLoop_ref, hpass]) | (with_reducible refine wpAny_loadPart_at hx ?_; rw [hc]) | with_reducible refine wpAny_mroOf_exc hC ?_ | ((with_reducible show wpAny _ _ (typeLookup _ _) _ _ _); refine (looks_findIn X hl).here ?_) | wp_step)
  rcases hd with ⟨hdn, hmA⟩ | ⟨dx, hdx, hne, hns⟩
  · rw [hdn, if_neg (by simp [typeHasDict])]
    split
    · rename_i hcd
      cases hcd
    split
    · rename_i c hcd
      exact absurd hcd (hnc c)
    · have hx₁ : (h.push { cls := .type "dict", data := .dict #[] }).get? x = some o := Heap.get?_push_of_some _ hx
      have hxs : x ≠ h.objs.size := Nat.ne_of_lt (Heap.lt_size hx)
      refine wpAny_bind (wpAny_alloc' ?_)
      refine wpAny_bind (wpAny_update' hx₁ ?_)
      refine wpAny_pure ?_
      have hgd : ((h.push { cls := .type "dict", data := .dict #[] }).update x fun o => { cls := o.cls, dict := some h.objs.size, data := o.data, slots := o.slots }).get? h.objs.size
          = some { cls := .type "dict", data := .dict #[] } :=
        (Heap.get?_update_ne _ _ _ _ hxs.symm).trans (Heap.get?_push_at rfl rfl)
      have hnd : ((h.push { cls := .type "dict", data := .dict #[] }).update x fun o => { cls := o.cls, dict := some h.objs.size, data := o.data, slots := o.slots }).Ns h.objs.size (fun _ => none) :=
        ⟨_, #[], _, hgd, rfl, fun e he => absurd he (by simp), fun _ => rfl⟩
      show wpAny _ _ (PySem.Builtin.ObjectAttr.storeInDict h.objs.size (.str name tk) name v) _ _ _
      unfold PySem.Builtin.ObjectAttr.storeInDict PySem.Builtin.ObjectAttr.newKeyGuard
      refine wpAny_bind (wpAny_pure (wpAny_bind (wpAny_nsSet1 (Heap.Ns1.of_empty hnd) fun h' hn' hs => ?_)))
      obtain ⟨oD, esD, epD, hoD, hdD, hcD⟩ := hn'.count (Within.cons name v Within.nil)
      refine wpAny_bind (wpAny_lookBehind hoD (by rw [hdD]; exact pastItsLine_dict (Nat.le_trans hcD (by rw [List.length_cons, List.length_nil, sizeLine_eq]; omega))) ?_)
      wp_walk
      refine hq h' _ h.objs.size (.inr ⟨hdn, rfl⟩) ?_ hxs.symm ?_ fun b ob hbx _ hb => ?_
      · refine (hs.2 x hxs).trans (Heap.get?_update_self _ hx₁ ?_)
        have hfr := (Heap.get?_some_iff.mp hx).2
        obtain ⟨oc, od, odt, osl⟩ := o
        cases odt <;> first | rfl | exact hfr
      · obtain ⟨o', es, ep, e1, e2, e3, eu, e4⟩ := hn'
        exact ⟨o', es, ep, e1, e2, e3, eu, fun y => by rw [e4 y]; by_cases hy : y = name <;> simp [hy, hmA]⟩
      · exact (hs.2 b (Nat.ne_of_lt (Heap.lt_size hb))).trans ((Heap.get?_update_ne _ _ _ _ hbx).trans (Heap.get?_push_of_some _ hb))
  · rw [hdx]
    refine wpAny_pure ?_
    show wpAny _ _ (PySem.Builtin.ObjectAttr.storeInDict dx (.str name tk) name v) _ _ _
    unfold PySem.Builtin.ObjectAttr.storeInDict PySem.Builtin.ObjectAttr.newKeyGuard
    refine wpAny_bind (wpAny_pure (wpAny_bind (wpAny_nsSet1 hns fun h' hn' hs => ?_)))
    obtain ⟨oD, esD, epD, hoD, hdD, hcD⟩ := hn'.count (Within.cons name v hw)
    refine wpAny_bind (wpAny_lookBehind hoD (by rw [hdD]; exact pastItsLine_dict (Nat.le_trans hcD (by rw [List.length_cons, sizeLine_eq]; omega))) ?_)
    wp_walk
    refine hq h' _ dx (.inl hdx) ?_ hne hn' fun b ob hbx hbd hb => (hs.2 b hbd).trans hb
    refine (hs.2 x hne.symm).trans (hx.trans ?_)
    rw [← hdx]
theorem fx_base_init {bmE : List Value} (F : ExcBaseFacts B newId initId bmE) {bm : List Value} {hdct : Bool} {newId' : String} {e t' : Addr} {msg : Value} {Q : Value → Shared → Prop}
    (hC : h.get? C = some (excClassObj nm q C N bs bm hdct sn sub ab col dd k0 k1 k2 k3 k5 newId')) (hcB : (Value.ref C :: bm).contains (.type B) = true) (he : h.get? e = some (fxObj C t' none))
    (hq : Q .none ⟨(h.push { cls := .type "tuple", data := .seq #[msg] }).update e (Obj.mapFields (·.setIfInBounds 0 (.ref h.objs.size))), g, d, t, os⟩) :
    wpAny (model prog w) A (call (.builtin initId) [.ref e, msg]) Q E ⟨h, g, d, t, os⟩ := by
  have hshort := F.noStar
  refine wpAny_call (codeAny_call_builtin F.init.plain F.initEntry ?_)
  simp only [checkBuiltinCall, F.initKind, F.initSplit, F.initRow]
  repeat (first | (with_reducible refine wpAny_loadPart_at he ?_) | with_reducible refine wpAny_loadPart_at hC ?_ | (with_reducible refine wpAny_isSubtype_exc hC ?_; rw [hcB]) | wp_step)
  exact hq
end
section
variable {prog : Program} {w : World} {A : Around} {h : Heap} {g : Array GenState} {d : Drawn} {t : Nat} {os : OsState}
variable {nm q : Str} {C C2 N x : Addr} {bs bmB : List Value} {sn : List Str} {sub : List Value} {ab : Bool} {col : Option Bool} {dd : Option Addr} {k0 k1 k2 k3 k5 : Option Value} {B newId sa owner : String}
  {mA : Str → Option Value} {name : Str} {v : Value} {K : Frag}
theorem fx_store_call {tk : Tok} {R : PySem.Result → Shared → Prop} {ns : List Str} {o : Obj} (X : K.In h) (SF : StoreFacts B bmB sa owner)
    (hC : h.get? C = some (excClassObj nm q C N bs (.ref C2 :: bmB) true sn sub ab col dd k0 k1 k2 k3 k5 newId)) (hl : findIn K (.ref C) name = some none)
    (hx : h.get? x = some o) (hc : o.cls = .ref C) (hnc : ∀ c, o.data ≠ .cls c) (hd : (o.dict = none ∧ ∀ n, mA n = none) ∨ ∃ d, o.dict = some d ∧ d ≠ x ∧ h.Ns1 d mA) (hw : Within mA ns) (hsz : ns.length ≤ 10)
    (hq : ∀ h' tk' dx, (o.dict = some dx ∨ (o.dict = none ∧ dx = h.objs.size)) → h'.get? x = some { o with dict := some dx } → dx ≠ x → h'.Ns1 dx (fun y => if y = name then some v else mA y) →
      (∀ b ob, b ≠ x → b ≠ dx → h.get? b = some ob → h'.get? b = some ob) → R (.ok (.ret .none)) ⟨h', g, d, tk', os⟩) :
    codeAny (model prog w) A (.call (.builtin sa) ⟨[.ref x, .str name tk, v], []⟩) R ⟨h, g, d, t, os⟩ :=
  codeAny_call_builtin SF.slot.plain SF.entry (fx_check_sa SF hC hx hc (fx_store X SF hC hl hx hc hnc hd hq hw hsz))
end
section
variable {prog : Program} {w : World} {A : Around} {E : Value → Shared → Prop} {s : Shared}
variable {nm q : Str} {C C2 N x : Addr} {bs bmB : List Value} {sn : List Str} {sub : List Value} {ab : Bool} {col : Option Bool} {dd : Option Addr} {k0 k1 k2 k3 k5 : Option Value} {B newId owner : String}
  {mA : Str → Option Value} {name : Str} {v : Value} {K : Frag}
theorem fx_setAttr {Q : Unit → Shared → Prop} {ns : List Str} {o : Obj} {od : Option Obj} (X : K.In s.heap) (SF : StoreFacts B bmB "object.__setattr__" owner)
    (hC : s.heap.get? C = some (excClassObj nm q C N bs (.ref C2 :: bmB) true sn sub ab col dd k0 k1 k2 k3 k5 newId)) (hs : findIn K (.ref C) "__setattr__" = some (some (.builtin "object.__setattr__"))) (hl : findIn K (.ref C) name = some none)
    (I : InstAt s.heap x o C od) (hnc : ∀ c, o.data ≠ .cls c) (hd : (o.dict = none ∧ ∀ n, mA n = none) ∨ ∃ d, o.dict = some d ∧ d ≠ x ∧ s.heap.Ns1 d mA) (hw : Within mA ns) (hsz : ns.length ≤ 10)
    (hq : ∀ h' tk' dx, (o.dict = some dx ∨ (o.dict = none ∧ dx = s.heap.objs.size)) → h'.get? x = some { o with dict := some dx } → dx ≠ x → h'.Ns1 dx (fun y => if y = name then some v else mA y) →
      (∀ b ob, b ≠ x → b ≠ dx → s.heap.get? b = some ob → h'.get? b = some ob) → Q () { s with heap := h', toks := tk' }) :
    wpAny (model prog w) A (setAttr (.ref x) name v) Q E s := by
  obtain ⟨h, g, d, t, os⟩ := s
  exact set_plain X I hs (fx_store_call X SF hC hl I.at_ I.cls hnc hd hw hsz hq)
end

end
section
local macro_rules | `(tactic| size_fits) => `(tactic| with_reducible exact sz0)
theorem meta_Exc : typeOf (.type "Exception") = pure (.type "type") := by kernel_rfl
local macro_rules | `(tactic| walk_at "getMethod type:Exception") => `(tactic| (k_here; refine' method_type ?F ?X ?m (by decide +kernel) ?e ?h ?_; (case F => k_asm); (case X => k_asm); (case m => exact meta_Exc); (case e => k_dflt k_is); (case h => k_handed)))
theorem fresh_size {g h : Heap} (k : ∀ b o, g.get? b = some o → h.get? b = some o) : g.get? h.objs.size = none := by
  cases q : g.get? h.objs.size with
  | none => rfl
  | some o => exact absurd (Heap.lt_size (k _ _ q)) (Nat.lt_irrefl _)
theorem fr_after {g h h' : Heap} {L e dx : Addr} {m : Str → Option Value} (F : Fr g L h m) (he : g.get? e = none) (heL : e ≠ L) (hdL : dx ≠ L) (hdg : g.get? dx = none) (k : ∀ b ob, b ≠ e → b ≠ dx → h.get? b = some ob → h'.get? b = some ob) : Fr g L h' m := by
  obtain ⟨oL, es, ep, hL, r⟩ := F.ns
  refine ⟨⟨oL, es, ep, k L oL (Ne.symm heL) (Ne.symm hdL) hL, r⟩, fun b o hb => k b o (fun z => by rw [z, he] at hb; cases hb) (fun z => by rw [z, hdg] at hb; cases hb) (F.keep b o hb), F.above⟩
theorem news_after {g h h' : Heap} {L e dx : Addr} {NW : Led} {o o' : Obj} (N : News g L h ((e, o) :: NW)) (hoff : ∀ p ∈ NW, p.1 ≠ e) (hd : ∀ p ∈ NW, p.1 ≠ dx) (he : h'.get? e = some o') (k : ∀ b ob, b ≠ e → b ≠ dx → h.get? b = some ob → h'.get? b = some ob) : News g L h' ((e, o') :: NW) := by
  intro p hp
  rcases List.mem_cons.mp hp with rfl | hp
  · exact ⟨he, (N _ (.head _)).2⟩
  · exact ⟨k _ _ (hoff p hp) (hd p hp) (N p (.tail _ hp)).1, (N p (.tail _ hp)).2⟩
abbrev BMX : List Value := [.type "Exception", .type "BaseException", .type "object"]
theorem cls45 : ∀ (w : World) (h : Heap) (_ : PySem.Challenge.rw_np0230_01.row.prog = PySem.Challenge.rw_np0230_01.row.prog) (_ : (Mine.hd.heap_1 w.params).In h), (∃ nm q N bs sn sub ab col dd k0 k1 k2 k3 k5, h.get? 45 = some (excClassObj nm q 45 N bs (.ref 32 :: BMX) true sn sub ab col dd k0 k1 k2 k3 k5 "Exception.__new__")) ∧
    findIn (Mine.hd.heap_1 w.params) (.ref 45) "__setattr__" = some (some (.builtin "object.__setattr__")) ∧ findIn (Mine.hd.heap_1 w.params) (.ref 45) "message" = some none ∧ findIn (Mine.hd.heap_1 w.params) (.ref 45) "place" = some none ∧
    findIn (Mine.hd.heap_1 w.params) (.ref 45) "__init__" = some (some (.ref 29)) ∧ ∃ o, h.get? 29 = some o ∧ o.cls = .type "function" := by
  k_fill
  intro w h _ X
  have h1 := X 45 _ (by k_is)
  exact ⟨⟨_, _, _, _, _, _, _, _, _, _, _, _, _, _, h1⟩, by k_is, by k_is, by k_is, by k_is, _, X 29 _ (by k_is), rfl⟩
theorem init_run (w : World) (mean : ExcName → Option Value) (mg mb : Str → Option Value) (dp un : Nat) (gd : Option (List Code)) (cn : Str) (cs : Scope) (a : Addr) (ccd : Value) (cl : List (Str × Addr)) (outer : List Env) (A₀ : Around) (base h₀ : Heap) (L : Addr) (m : Str → Option Value) (NW : Led) (s : Shared) (e t' : Addr) (msg x : Value)
    (Q E : Value → Shared → Prop)
    (B : Below A₀ base outer h₀) (F : Fr h₀ L s.heap m) (X : (Mine.hd.heap_1 w.params).In h₀) (N : News h₀ L s.heap ((e, fxObj 45 t' none) :: NW)) (TT : Top topProg LO2 mean mg mb h₀) (hk : cs.kind = .function) (hd : dp + 5 < recursionLimit) (hoff : ∀ p ∈ NW, p.1 ≠ e)
    (hret : ∀ h' tk a0 dd, Fr h₀ L h' m → News h₀ L h' ((e, { cls := .ref 45, dict := dd, data := .fields #[a0, .none, .none, .none, .bool false, .none] }) :: NW) → Q .none { s with heap := h', toks := tk }) :
    wpAny (model PySem.Challenge.rw_np0230_01.row.prog w) (ktrTop dp un gd cn cs L a ccd cl outer) (call (.ref 29) [.ref e, msg, x]) Q E s := by
  revert B F X N TT hk hd hret
  k_fill
  intro B F X N TT hk hd hret
  refine wpAny_call ?_
  k_dflt (refine' code_def ?zek1q1 ?zek2q1 ?zek3q1 ?zek4q1 ?zek5q1 ?zekAq1 ?zekFq1 ?zekKq1 ?zek6q1 ?zek7q1 ?zek8q1 ?zek9q1 ?zekBq1 ?_ ?zec2q1 ?zec3q1 ?zec4q1 ?zec5q1; (case zekAq1 => exact rfl); (case zekFq1 => exact rfl); (case zekKq1 => assumption); (case zek1q1 => k_asm); (case zek2q1 => k_asm); (case zek3q1 => k_asm); (case zek4q1 => k_asm); (case zek5q1 => k_asm); (case zek6q1 => k_is); (case zek7q1 => k_is); (case zek8q1 => ktr_room); (case zek9q1 => exact binds_K (by k_in) rfl (by k_is) rfl rfl rfl); (case zec5q1 => decide); (case zekBq1 => exact locs rfl); (case zec2q1 => exact rfl); (case zec3q1 => exact rfl); (case zec4q1 => exact rfl); k_whole; intro zg1 zL1 zh1 zFG zF1 zN1 zB1 zX1 zT1; (try dsimp only); (try k_fold))
  w_strict (
    (rename Fr _ _ _ _ => F1)
    (replace F1 := fr_lk [(Str.ofString "place", x), (Str.ofString "message", msg), (Str.ofString "self", .ref e)] F1)
    (dsimp only [lkm] at F1)
    (repeat' (first | ((fail_if_success (with_reducible (first | refine tW ?_ | refine tI ?_ | refine tF ?_ | refine tC ?_ | refine tR 475 ?_ | refine tR 482 ?_ | refine tR 489 ?_ | refine tR 496 ?_ | refine tR 503 ?_ | refine tR 510 ?_))); first | ((with_reducible show WhileStep2 _ _ _ _ _ _ (Flow.ret _) _); dsimp only [WhileStep2]) | ((with_reducible show TurnP _ _ _ _ _ _ _ _ _ (Flow.ret _) _); dsimp only [TurnP]) | (k_unfold; (try dsimp only)) | (k_end; first | refine' next_q (by with_reducible assumption) ?_ | refine' ret_q (by with_reducible assumption) ?_ | refine' brk_q (by with_reducible assumption) ?_ | refine' cont_q (by with_reducible assumption) ?_) | (k_end; wrow_close) | walk1 | (dsimp only; walk1) | (leave1; walk_say "STEP leave1"; try dsimp only)) | fail "no step"))
    obtain ⟨⟨_, _, _, _, _, _, _, _, _, _, _, _, _, _, C1⟩, -⟩ := cls45 w zh1 rfl (zX1.keeps F1.keep)
    refine fx_base_init (t' := t') PySem.F.excBase_Exception C1 (by decide) (zN1 _ (.head _)).1 ?_
    obtain ⟨F2, N2⟩ := news_upd (d := e) (pre := []) (post := NW) (o' := fxObj 45 zh1.objs.size none) (f := Obj.mapFields (·.setIfInBounds 0 (.ref zh1.objs.size))) (F1.push { cls := .type "tuple", data := .seq #[msg] }) (fun p hp => ⟨Heap.get?_push_of_some _ (zN1 p hp).1, (zN1 p hp).2⟩) (fun _ h => absurd h List.not_mem_nil) hoff rfl rfl
    rw [List.nil_append] at N2
    generalize (zh1.push { cls := .type "tuple", data := .seq #[msg] }).update e (Obj.mapFields (·.setIfInBounds 0 (.ref zh1.objs.size))) = h2 at *
    generalize zh1.objs.size = a0 at *
    clear F1 zN1 C1
    (repeat' (first | ((fail_if_success (with_reducible (first | refine tW ?_ | refine tI ?_ | refine tF ?_ | refine tC ?_ | refine tR 475 ?_ | refine tR 482 ?_ | refine tR 489 ?_ | refine tR 496 ?_ | refine tR 503 ?_ | refine tR 510 ?_))); first | ((with_reducible show WhileStep2 _ _ _ _ _ _ (Flow.ret _) _); dsimp only [WhileStep2]) | ((with_reducible show TurnP _ _ _ _ _ _ _ _ _ (Flow.ret _) _); dsimp only [TurnP]) | (k_unfold; (try dsimp only)) | (k_end; first | refine' next_q (by with_reducible assumption) ?_ | refine' ret_q (by with_reducible assumption) ?_ | refine' brk_q (by with_reducible assumption) ?_ | refine' cont_q (by with_reducible assumption) ?_) | (k_end; wrow_close) | walk1 | (dsimp only; walk1) | (leave1; walk_say "STEP leave1"; try dsimp only)) | fail "no step"))
    (rename Fr _ _ _ _ => F2)
    (rename News _ _ _ _ => N2)
    obtain ⟨⟨_, _, _, _, _, _, _, _, _, _, _, _, _, _, C2⟩, hs2, hl2, -⟩ := cls45 w h2 rfl (zX1.keeps F2.keep)
    have G2 := (N2 _ (.head _))
    refine fx_setAttr (C := 45) (o := fxObj 45 a0 none) (od := none) (mA := fun _ => none) (ns := []) (zX1.keeps F2.keep) PySem.F.store_Exception C2 hs2 hl2 ⟨G2.1, rfl, rfl, trivial⟩ (fun _ h => by cases h) (.inl ⟨rfl, fun _ => rfl⟩) Within.nil (Nat.zero_le _) ?_
    rintro h3 tk3 dx (hdx | ⟨-, rfl⟩) he3 hdxe hns3 hk3
    · cases hdx
    have hdL : h2.objs.size ≠ zL1 := Nat.ne_of_gt F2.ns.lt
    have hdg : zg1.get? h2.objs.size = none := fresh_size F2.keep
    have hdN : ∀ p ∈ NW, p.1 ≠ h2.objs.size := fun p hp => Nat.ne_of_lt (Heap.lt_size (N2 p (.tail _ hp)).1)
    have F3 := fr_after F2 G2.2.2 G2.2.1 hdL hdg hk3
    have N3 := news_after N2 hoff hdN he3 hk3
    clear N2 F2 G2 C2 hk3
    generalize h2.objs.size = dx at *
    dsimp only
    (repeat' (first | ((fail_if_success (with_reducible (first | refine tW ?_ | refine tI ?_ | refine tF ?_ | refine tC ?_ | refine tR 475 ?_ | refine tR 482 ?_ | refine tR 489 ?_ | refine tR 496 ?_ | refine tR 503 ?_ | refine tR 510 ?_))); first | ((with_reducible show WhileStep2 _ _ _ _ _ _ (Flow.ret _) _); dsimp only [WhileStep2]) | ((with_reducible show TurnP _ _ _ _ _ _ _ _ _ (Flow.ret _) _); dsimp only [TurnP]) | (k_unfold; (try dsimp only)) | (k_end; first | refine' next_q (by with_reducible assumption) ?_ | refine' ret_q (by with_reducible assumption) ?_ | refine' brk_q (by with_reducible assumption) ?_ | refine' cont_q (by with_reducible assumption) ?_) | (k_end; wrow_close) | walk1 | (dsimp only; walk1) | (leave1; walk_say "STEP leave1"; try dsimp only)) | fail "no step"))
    (rename Fr _ _ _ _ => F3)
    (rename News _ _ _ _ => N3)
    obtain ⟨⟨_, _, _, _, _, _, _, _, _, _, _, _, _, _, C3⟩, hs3, -, hl3, -⟩ := cls45 w h3 rfl (zX1.keeps F3.keep)
    have G3 := (N3 _ (.head _))
    obtain ⟨oD, hoD⟩ : ∃ oD, h3.get? dx = some oD := let ⟨o, _, _, h, _⟩ := hns3; ⟨o, h⟩
    refine fx_setAttr (C := 45) (o := fxObj 45 a0 (some dx)) (od := some oD) (ns := [Str.ofString "message"]) (zX1.keeps F3.keep) PySem.F.store_Exception C3 hs3 hl3 ⟨G3.1, rfl, rfl, hoD⟩ (fun _ h => by cases h) (.inr ⟨dx, rfl, hdxe, hns3⟩) (Within.cons _ _ Within.nil) (by decide) ?_
    rintro h4 tk4 dx4 (hdx | ⟨hdx, -⟩) he4 hdxe4 hns4 hk4
    rotate_left
    · cases hdx
    obtain rfl : dx = dx4 := Option.some.inj hdx
    have F4 := fr_after F3 G3.2.2 G3.2.1 hdL hdg hk4
    have N4 := news_after N3 hoff hdN he4 hk4
    clear N3 F3 G3 C3 hk4
    dsimp only
    (repeat' (first | ((fail_if_success (with_reducible (first | refine tW ?_ | refine tI ?_ | refine tF ?_ | refine tC ?_ | refine tR 475 ?_ | refine tR 482 ?_ | refine tR 489 ?_ | refine tR 496 ?_ | refine tR 503 ?_ | refine tR 510 ?_))); first | ((with_reducible show WhileStep2 _ _ _ _ _ _ (Flow.ret _) _); dsimp only [WhileStep2]) | ((with_reducible show TurnP _ _ _ _ _ _ _ _ _ (Flow.ret _) _); dsimp only [TurnP]) | (k_unfold; (try dsimp only)) | (k_end; first | refine' next_q (by with_reducible assumption) ?_ | refine' ret_q (by with_reducible assumption) ?_ | refine' brk_q (by with_reducible assumption) ?_ | refine' cont_q (by with_reducible assumption) ?_) | (k_end; wrow_close) | walk1 | (dsimp only; walk1) | (leave1; walk_say "STEP leave1"; try dsimp only)) | fail "no step"))
    exact hret _ _ _ _ (by assumption) (by assumption))
abbrev excO (a0 : Value) (dd : Option Addr) : Obj := { cls := .ref 45, dict := dd, data := .fields #[a0, .none, .none, .none, .bool false, .none] }
theorem fix_call {w : World} {mean : ExcName → Option Value} {mg mb : Str → Option Value} {dp un : Nat} {gd : Option (List Code)} {cn : Str} {cs : Scope} {a : Addr} {ccd : Value} {cl : List (Str × Addr)} {outer : List Env} {A₀ : Around} {base h₀ : Heap} {L : Addr} {m : Str → Option Value} {NW : Led} {s : Shared} {msg x : Value}
    {Q E : Value → Shared → Prop}
    (B : Below A₀ base outer h₀) (F : Fr h₀ L s.heap m) (X : (Mine.hd.heap_1 w.params).In h₀) (N : News h₀ L s.heap NW) (TT : Top topProg LO2 mean mg mb h₀) (hk : cs.kind = .function) (hd : dp + 6 < recursionLimit)
    (hret : ∀ h' tk e a0 dd, Fr h₀ L h' m → News h₀ L h' ((e, excO a0 dd) :: NW) → (∀ p ∈ NW, p.1 < e) → Q (.ref e) { s with heap := h', toks := tk }) :
    wpAny (model PySem.Challenge.rw_np0230_01.row.prog w) (ktrTop dp un gd cn cs L a ccd cl outer) (call (.ref 45) [msg, x]) Q E s := by
  obtain ⟨h, g, d, t, os⟩ := s
  have X1 := X.keeps F.keep
  obtain ⟨⟨_, _, _, _, _, _, _, _, _, _, _, _, _, _, C1⟩, -, -, -, hi, oI, hI, hIc⟩ := cls45 w h rfl X1
  refine fx_call X1 PySem.F.excBase_Exception (by rfl) (by rfl) (by rfl) C1 hi hI hIc ?_ (by rw [sizeLine_eq, List.length_cons, List.length_cons, List.length_nil]; omega)
  intro h' e t' he ht hen htn keep hte hts hes
  have F1 : Fr h₀ L h' m := F.keeps keep
  have hlt : ∀ p ∈ NW, p.1 < e := fun p hp => Nat.lt_of_lt_of_le (Heap.lt_size (N p hp).1) (Nat.le_trans hts (Nat.le_of_lt hte))
  have heL : e ≠ L := Nat.ne_of_gt (Nat.lt_of_lt_of_le F.ns.lt (Nat.le_trans hts (Nat.le_of_lt hte)))
  have N1 : News h₀ L h' ((e, fxObj 45 t' none) :: NW) := by
    intro p hp
    rcases List.mem_cons.mp hp with rfl | hp
    · refine ⟨he, heL, ?_⟩
      cases q : h₀.get? e with
      | none => rfl
      | some o => exact absurd (F.keep _ _ q) (by rw [hen]; simp)
    · exact ⟨keep _ _ (N p hp).1, (N p hp).2⟩
  exact init_run w mean mg mb (dp + 1) _ _ cn cs a ccd cl outer A₀ base h₀ L m NW ⟨h', g, d, t, os⟩ e t' msg x _ E B F1 X N1 TT hk (by omega) (fun p hp => Nat.ne_of_lt (hlt p hp)) fun h2 tk a0 dd F2 N2 => ⟨rfl, hret h2 tk e a0 dd F2 N2 hlt⟩

section
variable {M : Model} {A : Around} {E : Value → Shared → Prop} {s' : Shared} {base g g₂ h : Heap} {outer : List Env} {L a e : Addr} {m : Str → Option Value} {name : Str} {scope : Scope} {cd : Value} {Q : Unit → Shared → Prop} {news : Led} {a0 : Value} {dd : Option Addr}
theorem leave_ownS (K : Below A base outer g) (F : Fr g L s'.heap m) (N : News g L s'.heap ((e, excO a0 dd) :: news)) (hoff : ∀ p ∈ news, p.1 ≠ e)
    (hQ : ∀ h', RaisedSN base g outer e (.ref 45) news h' → g.UpToSlots h' → Q () { s' with heap := h' }) (hk : scope.kind = .function := by rfl) :
    wpAny M (A.deeper (envOf name scope L a cd)) (leaving (envOf name scope L a cd) (.ref e)) Q E s' := by
  have K' := K.push (name := name) (a := a) (cd := cd) F hk
  have Ge := N _ (.head _)
  have ne : ∀ b o, g.get? b = some o → b ≠ e := fun b o q z => by rw [z, Ge.2.2] at q; cases q
  have nb : ∀ b o, base.get? b = some o → b ≠ e := fun b o q => by
    intro z
    have hb := fresh_of_stays K.stays Ge.2.2
    rw [z, hb] at q; cases q
  have hin : ∀ env ∈ (envOf name scope L a cd :: outer), ∀ b, env.frame = some b → b ∈ (e :: (envOf name scope L a cd :: outer).filterMap (·.frame)) := fun env he b hb => .tail _ (List.mem_filterMap.mpr ⟨env, he, hb⟩)
  have st : base.StaysIn (hideAll s'.heap (e :: (envOf name scope L a cd :: outer).filterMap (·.frame))) := fun b o q => hideAll_get _ (K'.stays b o q) fun hm => by
    rcases List.mem_cons.mp hm with z | hm
    · exact nb b o q z
    · rw [(K'.frames.mem hm).1] at q; cases q
  have sg : ∀ b o, g.get? b = some o → b ∉ outer.filterMap (·.frame) → (hideAll s'.heap (e :: (envOf name scope L a cd :: outer).filterMap (·.frame))).get? b = some o := fun b o q nm => hideAll_get _ (F.keep b o q) fun hm => by
    rcases List.mem_cons.mp hm with z | hm
    · exact ne b o q z
    · rcases kts_mem hm with z | z
      · rw [z, kts_self F] at q
        cases q
      · exact nm z
  have hl : ∀ q ∈ news, (hideAll s'.heap (e :: (envOf name scope L a cd :: outer).filterMap (·.frame))).get? q.1 = some q.2 ∧ g.get? q.1 = none ∧ base.get? q.1 = none := fun q hq => by
    have Nq := N q (.tail _ hq)
    refine ⟨hideAll_get _ Nq.1 fun hm => ?_, Nq.2.2, fresh_of_stays K.stays Nq.2.2⟩
    rcases List.mem_cons.mp hm with z | hm
    · exact hoff q hq z
    · obtain ⟨env, he, hf⟩ := List.mem_filterMap.mp hm
      rcases List.mem_cons.mp he with rfl | he
      · exact Nq.2.1 (Option.some.inj hf).symm
      · obtain ⟨o, ho, _⟩ := (K.frames.mem (List.mem_filterMap.mpr ⟨env, he, hf⟩)).2
        rw [Nq.2.2] at ho; cases ho
  have hen : (hideAll s'.heap (e :: (envOf name scope L a cd :: outer).filterMap (·.frame))).get? e = none := hideAll_none _ (.head _)
  refine wpAny_leaving_firstW (a0 := a0) K'.stack (funFrames_hide K'.frames hin) rfl Ge.1 (fun b o hb => of_hideAll _ hb) hen rfl rfl rfl fun h' hL => ?_
  obtain ⟨k1, ⟨_, _, k2⟩, k3, k4⟩ := hL
  exact hQ h' ⟨_, a0, st, sg, hl, k1, hen, k2, k3⟩ ((Heap.UpToSlots.of_keeps F.keep).trans k4)
end
section
variable {prog : Program} {w : World} {A : Around} {E : Value → Shared → Prop} {s : Shared} {env : Env}
noncomputable def RaisableO (w : World) (E : Value → Shared → Prop) (v : Value) (s₁ : Shared) : Prop := ∃ e a0 dd, v = .ref e ∧ (∃ g L h m, (Mine.hd.heap_1 w.params).In g ∧ Fr g L h m ∧ h = s₁.heap) ∧ s₁.heap.get? e = some (excO a0 dd) ∧ E (.ref e) s₁
theorem raise_own {x : PySem.Expr} {pos : Pos} {Q : Flow → Shared → Prop} (hh : A.handled = none)
    (h : wpAny (model PySem.Challenge.rw_np0230_01.row.prog w) A (eval x env) (RaisableO w E) E s) : wpAny (model PySem.Challenge.rw_np0230_01.row.prog w) A (exec (.Raise (some x) none pos) env) Q E s := by
  show wpAny _ A (do standAt pos; raiseStmt env (some (do let v ← eval x env; standAt pos; pure v)) none) Q E s
  refine wpAny_bind (wpAny_standAt ?_)
  unfold raiseStmt
  dsimp only
  refine wpAny_bind (wpAny_bind (wpAny_mono h (fun v s₁ h₁ => wpAny_bind (wpAny_standAt (wpAny_pure ?_))) fun _ _ x => x))
  obtain ⟨e, a0, dd, rfl, ⟨g, L, hh1, m, X, F, rfl⟩, he, hE⟩ := h₁
  obtain ⟨hp, g, d, tk, os⟩ := s₁
  obtain ⟨⟨nm, q, N, bs, sn, sub, ab, col, dd', k0, k1, k2, k3, k5, hC⟩, -⟩ := cls45 w hp rfl (X.keeps F.keep)
  have hcB : (Value.ref 45 :: .ref 32 :: BMX).contains (.type "BaseException") = true := by decide
  repeat (first | with_reducible refine wpAny_loadPart_at he ?_ | with_reducible refine wpAny_loadPart_at hC ?_ | (with_reducible refine wpAny_isSubtype_exc hC ?_; rw [hcB]) | wp_step)
  exact wpAny_raiseNew_none hh hE
end
section
variable {prog : Program} {w : World} {A₀ : Around} {E : Value → Shared → Prop} {s' : Shared} {base g g₀ G : Heap} {outer : List Env} {L a e C : Addr} {m : Str → Option Value} {name : Str} {scope : Scope} {cd : Value}
  {b₀ : Stmt} {suite : List Stmt} {pos np : Pos} {rest : List ExceptHandler} {Q : Flow → Shared → Prop} {news : Led} {KF : Frag}
  {p : Program} {loose : List Str} {mean : ExcName → Option Value} {mg mb : Str → Option Value} {x : Str}
theorem caught_own (R : RaisedSN base G (envOf name scope L a cd :: outer) e (.ref C) news s'.heap) (F : Fr g L G m) (K : Below A₀ base outer g) (hsm : G.UpToSlots s'.heap) (XB : KF.In base) (TB : Top p loose mean mg mb base)
    (D : KtsDicts (outer.filterMap (·.frame)) g) (T0 : KtsTurn (outer.filterMap (·.frame)) g₀ g)
    (ex : nsIn KF mainGlobals x = some (some (.ref C))) (q : ktsIn KF C "BaseException" = true)
    (k : ∀ h' g', KtsTurn (outer.filterMap (·.frame)) g₀ g' → Fr g' L h' m → News g' L h' news → Below A₀ base outer g' → KF.In g' → Top p loose mean mg mb g' → KtsDicts (outer.filterMap (·.frame)) g' →
      wpAny (model prog w) ((A₀.deeper (envOf name scope L a cd)).mark (some (.ref e))) (execs (b₀ :: suite) (envOf name scope L a cd)) Q E { s' with heap := h' })
    (hk : scope.kind = .function := by rfl) (hx : (envOf name scope L a cd).kindOf x = some .globalImplicit := by rfl) (hd : (x == ("__debug__" : Str)) = false := by decide)
    (hE : PassesOwnAt (model prog w) ((A₀.deeper (envOf name scope L a cd)).mark (some (.ref e))) (A₀.deeper (envOf name scope L a cd)) (envOf name scope L a cd) E := by passes_own) :
    wpAny (model prog w) (A₀.deeper (envOf name scope L a cd)) (noteFrame (.ref e) (envOf name scope L a cd))
      (fun _ s₂ => wpAny (model prog w) (A₀.deeper (envOf name scope L a cd)) (setFlight (.ref e) none) (fun _ s₃ =>
        wpAny (model prog w) (A₀.deeper (envOf name scope L a cd)) (handleBy (.ref e) (envOf name scope L a cd) (.ExceptHandler (some (.Name x np)) none (b₀ :: suite) pos :: rest)) Q E s₃) E s₂) E s' := by
  obtain ⟨B, a0, hB, hBG, hl, hfl⟩ := R
  have hL : B.get? L = none := by
    obtain ⟨_, ⟨L', _, hf, hn', _⟩, _⟩ := hfl.2.2.1
    obtain rfl : L = L' := Option.some.inj hf
    exact hn'
  refine wpAny_looks_onW (Around.frames_deeper K.stack) rfl hfl fun h₄ hheld₄ hsm₄ => ?_
  refine wpAny_landsW hheld₄ fun h₅ hheld hsm₅' => ?_
  have hsm₅ := hsm₄.trans hsm₅'
  obtain ⟨g₅, T₅, F₅, K₅⟩ := kts_ground K F hBG hheld.1 (hsm.trans hsm₅)
  have X₅ : KF.In g₅ := XB.keeps K₅.stays
  have P₅ : TopRead p loose mg mb g₅ := topRead_of (TB.keeps K₅.stays)
  obtain ⟨ob, hob, hobc⟩ := hheld.there
  obtain ⟨nm, q', N, bs, bm, hdct, sn, sub, ab, col, dd, k0, k1, k2, k3, k5, newId, hC, hbase, hbT⟩ := kts_cls X₅ q
  have hC₅ := F₅.keep _ _ hC
  refine wpAny_handleBy_cons (codeAny_handlers_test (name_K F₅ X₅ P₅ ex ?_ hk hx hd)) (by intro q; cases q)
  refine wpAny_excMatches_sub_self hC₅ hob hobc hbase (codeAny_handlers_suite ?_)
  refine lands_againW hheld fun h₆ hfl₆ hsm₆ => ?_
  obtain ⟨g₆, T₆, F₆, K₆⟩ := kts_ground K F hBG hfl₆.1 ((hsm.trans hsm₅).trans hsm₆)
  have Nl : News g₆ L h₆ news := fun q hq => ⟨hfl₆.1 _ _ (hl q hq).1, (fun z => by have := (hl q hq).1; rw [z, hL] at this; cases this), T₆.none_ _ (kts_none F.keep (hl q hq).2.1)⟩
  have X₆ : KF.In g₆ := XB.keeps K₆.stays
  have P₆ : Top p loose mean mg mb g₆ := TB.keeps K₆.stays
  have D₆ : KtsDicts (outer.filterMap (·.frame)) g₆ := D.turn T₆
  exact wpAny_passesOwnAt hE (k h₆ g₆ (T0.trans T₆) F₆ Nl K₆ X₆ P₆ D₆)
end

end
section
-- ## a call that may raise a FixityError
noncomputable def RSpec (w : World) (f : Addr) {D : Type} (dep : D → Nat) (Pre : Led → List Value → D → Prop) (Post : Led → Value → D → Prop) (Rz : D → Prop) : Prop :=
  ∀ (mean : ExcName → Option Value) (mg mb : Str → Option Value) (dp un : Nat) (gd : Option (List Code)) (cn : Str) (cs : Scope) (a : Addr) (ccd : Value) (cl : List (Str × Addr)) (outer : List Env) (A₀ : Around) (base h₀ : Heap) (L : Addr) (m : Str → Option Value) (M P : Led) (s : Shared) (vs : List Value) (d : D)
    (Q E : Value → Shared → Prop),
    Below A₀ base outer h₀ → Fr h₀ L s.heap m → (Mine.hd.heap_1 w.params).In h₀ → News h₀ L s.heap (M ++ P) → Top topProg LO2 mean mg mb h₀ → cs.kind = .function → Pre P vs d → dp + dep d < recursionLimit → un + 8 * dep d < cLine →
    (∀ r P' h' tk', Fr h₀ L h' m → News h₀ L h' (M ++ P') → (∀ p ∈ P, p ∈ P') → (∀ p ∈ P', p ∈ P ∨ ∀ q ∈ M ++ P, q.1 ≠ p.1) → Post P' r d → Q r { s with heap := h', toks := tk' }) →
    (∀ e h' G tk', Fr h₀ L G m → RaisedSN base G (envX cn cs L a ccd cl :: outer) e (.ref 45) (M ++ P) h' → G.UpToSlots h' → Rz d → E (.ref e) { s with heap := h', toks := tk' }) →
    wpAny (model PySem.Challenge.rw_np0230_01.row.prog w) (ktrTop dp un gd cn cs L a ccd cl outer) (call (.ref f) vs) Q E s
abbrev en (k : String) (h : Int) (t : Tok) (v : Value) : DictEntry := ⟨h, .str (Str.ofString k) t, v⟩
noncomputable def FixIn (P : Led) (v : Value) (f : Fx) : Prop := ∃ a d n h1 t1 h2 t2 t u, v = .ref a ∧ (a, instObj 254 d) ∈ P ∧ (d, dictOf [en "way" h1 t1 (.str f.wy.str t), en "level" h2 t2 (.int f.lv u)] n) ∈ P
noncomputable def clashV (f g : Fx) : Bool := decide (f.lv = g.lv) && (!decide (f.wy = g.wy) || decide (f.wy = .n))
theorem clash1 {f g : Fx} (h : (f.lv : Int) = g.lv) (k : (f.wy.str != g.wy.str) = true) : clashV f g = true := by
  rw [bne, wy_beq] at k
  have h2 : f.lv = g.lv := by omega
  simp only [clashV, h2, decide_true, Bool.true_and, k, Bool.true_or]
theorem clash2 {f g : Fx} (h : (f.lv : Int) = g.lv) (k : (f.wy.str == Str.ofString "none") = true) : clashV f g = true := by
  rw [show Str.ofString "none" = Wy.n.str from rfl, wy_beq] at k
  have h2 : f.lv = g.lv := by omega
  simp only [clashV, h2, decide_true, Bool.true_and, k, Bool.or_true]
theorem clash3 {f g : Fx} (h : (f.lv : Int) ≠ g.lv) : clashV f g = false := by
  have h2 : ¬ f.lv = g.lv := by omega
  simp only [clashV, decide_eq_false h2, Bool.false_and]
theorem clash4 {f g : Fx} (k : (f.wy.str != g.wy.str) = false) (l : (f.wy.str == Str.ofString "none") = false) : clashV f g = false := by
  rw [bne, wy_beq] at k
  rw [show Str.ofString "none" = Wy.n.str from rfl, wy_beq] at l
  simp only [clashV, k, l, Bool.or_false, Bool.and_false]
noncomputable def ClashS (w : World) : Prop := RSpec w 314 (D := Fx × Fx) (fun _ => 9)
    (fun P vs d => ∃ u v x, vs = [u, v, x] ∧ FixIn P u d.1 ∧ FixIn P v d.2)
    (fun _ r d => r = .none ∧ clashV d.1 d.2 = false) (fun d => clashV d.1 d.2 = true)
theorem RSpec.use {w : World} {f : Addr} {D : Type} {dep : D → Nat} {Pre : Led → List Value → D → Prop} {Post : Led → Value → D → Prop} {Rz : D → Prop} (S : RSpec w f dep Pre Post Rz) (M P : Led) (d : D)
    {mean : ExcName → Option Value} {mg mb : Str → Option Value} {dp un : Nat} {gd : Option (List Code)} {cn : Str} {cs : Scope} {a : Addr} {ccd : Value} {cl : List (Str × Addr)} {outer : List Env} {A₀ : Around} {base h₀ : Heap} {L : Addr} {m : Str → Option Value} {nw : Led} {s : Shared} {vs : List Value}
    {Q E : Value → Shared → Prop}
    (B : Below A₀ base outer h₀) (F : Fr h₀ L s.heap m) (X : (Mine.hd.heap_1 w.params).In h₀) (N : News h₀ L s.heap nw) (hs : ∀ p ∈ M ++ P, p ∈ nw) (TT : Top topProg LO2 mean mg mb h₀) (hk : cs.kind = .function) (hp : Pre P vs d) (hd : dp + dep d < recursionLimit) (hu : un + 8 * dep d < cLine)
    (ret : ∀ r P' h' tk', Fr h₀ L h' m → News h₀ L h' (M ++ P') → (∀ p ∈ P, p ∈ P') → (∀ p ∈ P', p ∈ P ∨ ∀ q ∈ M ++ P, q.1 ≠ p.1) → Post P' r d → Q r { s with heap := h', toks := tk' })
    (rz : ∀ e h' G tk', Fr h₀ L G m → RaisedSN base G (envX cn cs L a ccd cl :: outer) e (.ref 45) (M ++ P) h' → G.UpToSlots h' → Rz d → E (.ref e) { s with heap := h', toks := tk' }) :
    wpAny (model PySem.Challenge.rw_np0230_01.row.prog w) (ktrTop dp un gd cn cs L a ccd cl outer) (call (.ref f) vs) Q E s :=
  S mean mg mb dp un gd cn cs a ccd cl outer A₀ base h₀ L m M P s vs d Q E B F X (nsub N hs) TT hk hp hd hu ret rz
noncomputable def KnIn (w : World) (P : Led) (v : Value) (T : Tb) : Prop :=
  ∃ d o kvs, v = .ref d ∧ (d, o) ∈ P ∧ (d == sysModules) = false ∧ o.IsDictOf (strKind PySem.Challenge.rw_np0230_01.row.prog w) kvs ∧ ∀ x : Nm, x ≠ .mi → (x = .col ∧ valueAt kvs x.str = none) ∨ ∃ u, valueAt kvs x.str = some u ∧ FixIn P u (T.get x)
theorem FixIn.mono {P P' : Led} {v : Value} {f : Fx} (h : FixIn P v f) (hs : ∀ p ∈ P, p ∈ P') : FixIn P' v f := by
  obtain ⟨a, d, n, h1, t1, h2, t2, t, u, e, ha, hd⟩ := h
  exact ⟨a, d, n, h1, t1, h2, t2, t, u, e, hs _ ha, hs _ hd⟩
theorem KnIn.mono {w : World} {P P' : Led} {v : Value} {T : Tb} (x : KnIn w P v T) (h : ∀ p ∈ P, p ∈ P') : KnIn w P' v T := by
  obtain ⟨d, o, kvs, e, hm, hne, ho, hk⟩ := x
  exact ⟨d, o, kvs, e, h _ hm, hne, ho, fun x hx => (hk x hx).imp id fun ⟨u, a, b⟩ => ⟨u, a, b.mono h⟩⟩
noncomputable def FixityInS (w : World) : Prop := Spec w 286 (D := Tb × Nm) (fun _ => 8)
    (fun P vs d => ∃ kv tk, vs = [kv, .str d.2.str tk] ∧ KnIn w P kv d.1 ∧ d.2 ≠ .mi) (fun P r d => FixIn P r (d.1.get d.2))
noncomputable def OpIn (P : Led) (v : Value) (x : Nm) : Prop := ∃ a d n h1 t1 h2 t2 h3 t3 u, v = .ref a ∧ (a, instObj 208 d) ∈ P ∧ (d, dictOf [en "place" h1 t1 .none, en "name" h2 t2 (.str x.str u), en "is_con" h3 t3 (.bool (decide (x = .col)))] n) ∈ P
theorem OpIn.mono {P P' : Led} {v : Value} {x : Nm} (h : OpIn P v x) (hs : ∀ p ∈ P, p ∈ P') : OpIn P' v x := by
  obtain ⟨a, d, n, h1, t1, h2, t2, h3, t3, u, e, ha, hd⟩ := h
  exact ⟨a, d, n, h1, t1, h2, t2, h3, t3, u, e, hs _ ha, hs _ hd⟩
noncomputable def AppObj (P : Led) (v u x p : Value) : Prop := ∃ a d n h1 t1 h2 t2 h3 t3, v = .ref a ∧ (a, instObj 181 d) ∈ P ∧ (d, dictOf [en "place" h1 t1 p, en "fun" h2 t2 u, en "arg" h3 t3 x] n) ∈ P
noncomputable def NewAppS (w : World) : Prop := Spec w 181 (D := Value × Value × Value) (fun _ => 8)
    (fun _ vs d => vs = [d.1, d.2.1, d.2.2]) (fun P r d => AppObj P r d.1 d.2.1 d.2.2)

end

section
inductive NT
  | lit (i : Nat)
  | neg (n : NT)
  | app (f a : NT)
  | hd (x : Nm)
noncomputable def NT.dat : NT → Dat
  | .lit i => .tuple [.str (Str.ofString "lit"), .str (Str.ofString "int"), .int i]
  | .neg n => .tuple [.str (Str.ofString "neg"), n.dat]
  | .app f a => .tuple [.str (Str.ofString "app"), f.dat, a.dat]
  | .hd x => .tuple [.str (if x = .col then Str.ofString "con" else Str.ofString "var"), .str x.str]
noncomputable def NT.size : NT → Nat
  | .lit _ => 0
  | .neg n => n.size + 1
  | .app f a => f.size + a.size + 1
  | .hd _ => 0
noncomputable def Tr.nt : Tr → NT
  | .leaf i => .lit i
  | .neg t => .neg t.nt
  | .bin x l r => .app (.app (.hd x) l.nt) r.nt
theorem nt_dat : ∀ t : Tr, t.nt.dat = t.dat
  | .leaf _ => rfl
  | .neg t => by simp only [Tr.nt, NT.dat, Tr.dat, nt_dat t]
  | .bin x l r => by simp only [Tr.nt, NT.dat, Tr.dat, nt_dat l, nt_dat r]
theorem nt_size : ∀ t : Tr, t.nt.size ≤ 2 * t.size
  | .leaf _ => by simp [Tr.nt, NT.size]
  | .neg t => by have := nt_size t; simp only [Tr.nt, NT.size, Tr.size]; omega
  | .bin x l r => by have := nt_size l; have := nt_size r; simp only [Tr.nt, NT.size, Tr.size]; omega
inductive NodeIn (P : Led) : Value → NT → Prop
  | lit {a d : Addr} {n : Nat} {h1 h2 h3 : Int} {t1 t2 t3 u1 u2 : Tok} {pv : Value} {i : Nat} : (a, instObj 154 d) ∈ P → (d, dictOf [en "place" h1 t1 pv, en "kind" h2 t2 (.str (Str.ofString "int") u1), en "value" h3 t3 (.int i u2)] n) ∈ P → NodeIn P (.ref a) (.lit i)
  | neg {a d : Addr} {n : Nat} {h1 h2 h3 : Int} {t1 t2 t3 : Tok} {pv v uv : Value} {m : NT} : (a, instObj 235 d) ∈ P → (d, dictOf [en "place" h1 t1 pv, en "expr" h2 t2 v, en "uses" h3 t3 uv] n) ∈ P → NodeIn P v m → NodeIn P (.ref a) (.neg m)
  | app {a d : Addr} {n : Nat} {h1 h2 h3 : Int} {t1 t2 t3 : Tok} {pv u v : Value} {f g : NT} : (a, instObj 181 d) ∈ P → (d, dictOf [en "place" h1 t1 pv, en "fun" h2 t2 u, en "arg" h3 t3 v] n) ∈ P → NodeIn P u f → NodeIn P v g → NodeIn P (.ref a) (.app f g)
  | con {a d : Addr} {n : Nat} {h1 h2 h3 : Int} {t1 t2 t3 u1 : Tok} {pv uv : Value} : (a, instObj 127 d) ∈ P → (d, dictOf [en "place" h1 t1 pv, en "name" h2 t2 (.str Nm.col.str u1), en "uses" h3 t3 uv] n) ∈ P → NodeIn P (.ref a) (.hd .col)
  | var {a d : Addr} {n : Nat} {h1 h2 h3 : Int} {t1 t2 t3 u1 : Tok} {pv uv : Value} {x : Nm} : x ≠ .col → (a, instObj 100 d) ∈ P → (d, dictOf [en "place" h1 t1 pv, en "name" h2 t2 (.str x.str u1), en "uses" h3 t3 uv] n) ∈ P → NodeIn P (.ref a) (.hd x)
theorem NodeIn.mono {P P' : Led} (hs : ∀ p ∈ P, p ∈ P') {v : Value} {n : NT} (h : NodeIn P v n) : NodeIn P' v n := by
  induction h with
  | lit a b => exact .lit (hs _ a) (hs _ b)
  | neg a b _ ih => exact .neg (hs _ a) (hs _ b) ih
  | app a b _ _ i1 i2 => exact .app (hs _ a) (hs _ b) i1 i2
  | con a b => exact .con (hs _ a) (hs _ b)
  | var x a b => exact .var x (hs _ a) (hs _ b)
noncomputable def AppliedS (w : World) : Prop := Spec w 426 (D := Nm × NT × NT) (fun _ => 12)
    (fun P vs d => ∃ ov u v, vs = [ov, u, v] ∧ OpIn P ov d.1 ∧ NodeIn P u d.2.1 ∧ NodeIn P v d.2.2) (fun P r d => NodeIn P r (.app (.app (.hd d.1) d.2.1) d.2.2))
noncomputable def NegatedS (w : World) : Prop := Spec w 433 (D := Nm × NT) (fun _ => 12)
    (fun P vs d => ∃ ov u, vs = [ov, u] ∧ OpIn P ov d.1 ∧ NodeIn P u d.2) (fun P r d => NodeIn P r (.neg d.2))

end
section
theorem clash_spec (w : World) : ClashS w := by
  unfold ClashS RSpec
  k_fill
  rintro mean mg mb dp un gd cn cs a ccd cl outer A₀ base h₀ L m M P s vs ⟨f, g⟩ Q E B F X N TT hk hDD1 hd hu hret hrz
  refine el3 hDD1 ?_
  clear hDD1
  rintro u v x ⟨rfl, hu1, hv1⟩
  refine el9 hu1 ?_
  clear hu1
  rintro a1 d1 _ _ _ _ _ _ _ ⟨rfl, ha1, hd1⟩
  refine el9 hv1 ?_
  clear hv1
  rintro a2 d2 _ _ _ _ _ _ _ ⟨rfl, ha2, hd2⟩
  refine wpAny_call ?_
  k_dflt ktr_enter
  dsimp only at ha1 hd1 ha2 hd2
  w_strict (
    walk_at "norm"
    rename_i g1 L1 h1 FG1 F1 N1 B1 X1 T1
    (replace F1 := fr_lk [(Str.ofString "place", x), (Str.ofString "other", .ref a2), (Str.ofString "one", .ref a1)] F1)
    (dsimp only [lkm] at F1)
    (repeat' (first | ((fail_if_success (with_reducible (first | refine tW ?_ | refine tI ?_ | refine tF ?_ | refine tC ?_ | refine tX ?_ | refine tR 45 ?_ | refine tR 475 ?_ | refine tR 482 ?_ | refine tR 489 ?_ | refine tR 496 ?_ | refine tR 503 ?_ | refine tR 510 ?_))); first | ((with_reducible show WhileStep2 _ _ _ _ _ _ (Flow.ret _) _); dsimp only [WhileStep2]) | ((with_reducible show TurnP _ _ _ _ _ _ _ _ _ (Flow.ret _) _); dsimp only [TurnP]) | (k_unfold; (try dsimp only)) | (k_end; first | refine' next_q (by with_reducible assumption) ?_ | refine' ret_q (by with_reducible assumption) ?_ | refine' brk_q (by with_reducible assumption) ?_ | refine' cont_q (by with_reducible assumption) ?_) | (k_end; wrow_close) | walk1 | (dsimp only; walk1) | (leave1; walk_say "STEP leave1"; try dsimp only)) | fail "no step"))
    · ((k_here; refine' raise_own (by rfl) ?_; k_whole); (repeat' (first | ((fail_if_success (with_reducible (first | refine tW ?_ | refine tI ?_ | refine tF ?_ | refine tC ?_ | refine tX ?_ | refine tR 45 ?_ | refine tR 475 ?_ | refine tR 482 ?_ | refine tR 489 ?_ | refine tR 496 ?_ | refine tR 503 ?_ | refine tR 510 ?_))); first | ((with_reducible show WhileStep2 _ _ _ _ _ _ (Flow.ret _) _); dsimp only [WhileStep2]) | ((with_reducible show TurnP _ _ _ _ _ _ _ _ _ (Flow.ret _) _); dsimp only [TurnP]) | (k_unfold; (try dsimp only)) | (k_end; first | refine' next_q (by with_reducible assumption) ?_ | refine' ret_q (by with_reducible assumption) ?_ | refine' brk_q (by with_reducible assumption) ?_ | refine' cont_q (by with_reducible assumption) ?_) | (k_end; wrow_close) | walk1 | (dsimp only; walk1) | (leave1; walk_say "STEP leave1"; try dsimp only)) | fail "no step")); (refine' fix_call (cl := []) ?Bq2 ?Fq2 ?Xq2 ?Nq2 ?Tq2 rfl ?dq2 ?_; (case Bq2 => assumption); (case Fq2 => assumption); (case Xq2 => assumption); (case Nq2 => assumption); (case Tq2 => assumption); (case dq2 => ktr_room); intro zh3 ztk3 ze3 za3 zd3 zF3 zN3 zl3; refine' ⟨ze3, za3, zd3, rfl, ⟨_, _, _, _, by assumption, zF3, rfl⟩, (zN3 _ (.head _)).1, ?_⟩; (show wpAny _ _ (leaving _ _) _ _ _); refine' leave_ownS ?Kq2 zF3 zN3 (fun p hp => Nat.ne_of_lt (zl3 p hp)) ?_; (case Kq2 => assumption); intro zh4 zR4 zU4))
      exact hrz _ _ _ _ (by assumption) (by assumption) (by assumption) (clash1 (by assumption) (by assumption))
    · ((k_here; refine' raise_own (by rfl) ?_; k_whole); (repeat' (first | ((fail_if_success (with_reducible (first | refine tW ?_ | refine tI ?_ | refine tF ?_ | refine tC ?_ | refine tX ?_ | refine tR 45 ?_ | refine tR 475 ?_ | refine tR 482 ?_ | refine tR 489 ?_ | refine tR 496 ?_ | refine tR 503 ?_ | refine tR 510 ?_))); first | ((with_reducible show WhileStep2 _ _ _ _ _ _ (Flow.ret _) _); dsimp only [WhileStep2]) | ((with_reducible show TurnP _ _ _ _ _ _ _ _ _ (Flow.ret _) _); dsimp only [TurnP]) | (k_unfold; (try dsimp only)) | (k_end; first | refine' next_q (by with_reducible assumption) ?_ | refine' ret_q (by with_reducible assumption) ?_ | refine' brk_q (by with_reducible assumption) ?_ | refine' cont_q (by with_reducible assumption) ?_) | (k_end; wrow_close) | walk1 | (dsimp only; walk1) | (leave1; walk_say "STEP leave1"; try dsimp only)) | fail "no step")); (refine' fix_call (cl := []) ?Bq3 ?Fq3 ?Xq3 ?Nq3 ?Tq3 rfl ?dq3 ?_; (case Bq3 => assumption); (case Fq3 => assumption); (case Xq3 => assumption); (case Nq3 => assumption); (case Tq3 => assumption); (case dq3 => ktr_room); intro zh3 ztk3 ze3 za3 zd3 zF3 zN3 zl3; refine' ⟨ze3, za3, zd3, rfl, ⟨_, _, _, _, by assumption, zF3, rfl⟩, (zN3 _ (.head _)).1, ?_⟩; (show wpAny _ _ (leaving _ _) _ _ _); refine' leave_ownS ?Kq3 zF3 zN3 (fun p hp => Nat.ne_of_lt (zl3 p hp)) ?_; (case Kq3 => assumption); intro zh4 zR4 zU4))
      exact hrz _ _ _ _ (by assumption) (by assumption) (by assumption) (clash2 (by assumption) (by assumption))
    · exact hret _ _ _ _ (by assumption) (by assumption) sub0 fr0 ⟨rfl, clash4 (by assumption) (by assumption)⟩
    · exact hret _ _ _ _ (by assumption) (by assumption) sub0 fr0 ⟨rfl, clash3 (by assumption)⟩)

end
section
theorem law_node_spec (w : World) (t : Tr) : LawNodeS w t := by
  induction t with
  | leaf i =>
    unfold LawNodeS Spec
    k_fill
    rintro mean mg mb dp un gd cn cs a ccd cl outer A₀ base h₀ L m M P s vs ⟨⟩ Q E B F X N TT hk hDD1 hd hu hret
    obtain ⟨v, rfl, ht⟩ := hDD1
    cases ht
    refine wpAny_call ?_
    k_dflt ktr_enter
    w_strict (
      walk_at "norm"
      (rename Fr _ _ _ _ => F1)
      (replace F1 := fr_lk [(Str.ofString "tree", _)] F1)
      (dsimp only [lkm] at F1)
      (repeat' (first | ((fail_if_success (with_reducible (first | refine tW ?_ | refine tI ?_ | refine tF ?_ | refine tC ?_ | refine tX ?_ | refine tR 45 ?_ | refine tR 475 ?_ | refine tR 482 ?_ | refine tR 489 ?_ | refine tR 496 ?_ | refine tR 503 ?_ | refine tR 510 ?_))); first | ((with_reducible show WhileStep2 _ _ _ _ _ _ (Flow.ret _) _); dsimp only [WhileStep2]) | ((with_reducible show TurnP _ _ _ _ _ _ _ _ _ (Flow.ret _) _); dsimp only [TurnP]) | (k_unfold; (try dsimp only)) | (k_end; first | refine' next_q (by with_reducible assumption) ?_ | refine' ret_q (by with_reducible assumption) ?_ | refine' brk_q (by with_reducible assumption) ?_ | refine' cont_q (by with_reducible assumption) ?_) | (k_end; wrow_close) | walk1 | (dsimp only; walk1) | (leave1; walk_say "STEP leave1"; try dsimp only)) | fail "no step"))
      exact hret _ _ _ _ (by assumption) (nsub (by assumption) mv1) sub1 (fr1 (by assumption)) (.tuple (.head _) (.cons (.str _ _) (.cons (.str _ _) (.cons (.int _ _) .nil)))))
  | neg t ih =>
    unfold LawNodeS Spec
    k_fill
    rintro mean mg mb dp un gd cn cs a ccd cl outer A₀ base h₀ L m M P s vs ⟨⟩ Q E B F X N TT hk hDD1 hd hu hret
    obtain ⟨v, rfl, ht⟩ := hDD1
    cases ht with
    | neg hm htt =>
    refine wpAny_call ?_
    k_dflt ktr_enter
    w_strict (
      walk_at "norm"
      (rename Fr _ _ _ _ => F1)
      (replace F1 := fr_lk [(Str.ofString "tree", _)] F1)
      (dsimp only [lkm] at F1)
      (repeat' (first | ((fail_if_success (with_reducible (first | refine tW ?_ | refine tI ?_ | refine tF ?_ | refine tC ?_ | refine tX ?_ | refine tR 45 ?_ | refine tR 475 ?_ | refine tR 482 ?_ | refine tR 489 ?_ | refine tR 496 ?_ | refine tR 503 ?_ | refine tR 510 ?_))); first | ((with_reducible show WhileStep2 _ _ _ _ _ _ (Flow.ret _) _); dsimp only [WhileStep2]) | ((with_reducible show TurnP _ _ _ _ _ _ _ _ _ (Flow.ret _) _); dsimp only [TurnP]) | (k_unfold; (try dsimp only)) | (k_end; first | refine' next_q (by with_reducible assumption) ?_ | refine' ret_q (by with_reducible assumption) ?_ | refine' brk_q (by with_reducible assumption) ?_ | refine' cont_q (by with_reducible assumption) ?_) | (k_end; wrow_close) | walk1 | (dsimp only; walk1) | (leave1; walk_say "STEP leave1"; try dsimp only)) | fail "no step"))
      refine' ih.use M P () (by k_asm) (by k_asm) (by k_asm) (by k_asm) sub0 (by k_asm) rfl ⟨_, rfl, htt⟩ (by simp only [Tr.size] at hd ⊢; ktr_room) (by simp only [Tr.size] at hu ⊢; ktr_units) ?_
      rintro r P' h' tk' F1 N1 hsub hfr hdat
      (repeat' (first | ((fail_if_success (with_reducible (first | refine tW ?_ | refine tI ?_ | refine tF ?_ | refine tC ?_ | refine tX ?_ | refine tR 45 ?_ | refine tR 475 ?_ | refine tR 482 ?_ | refine tR 489 ?_ | refine tR 496 ?_ | refine tR 503 ?_ | refine tR 510 ?_))); first | ((with_reducible show WhileStep2 _ _ _ _ _ _ (Flow.ret _) _); dsimp only [WhileStep2]) | ((with_reducible show TurnP _ _ _ _ _ _ _ _ _ (Flow.ret _) _); dsimp only [TurnP]) | (k_unfold; (try dsimp only)) | (k_end; first | refine' next_q (by with_reducible assumption) ?_ | refine' ret_q (by with_reducible assumption) ?_ | refine' brk_q (by with_reducible assumption) ?_ | refine' cont_q (by with_reducible assumption) ?_) | (k_end; wrow_close) | walk1 | (dsimp only; walk1) | (leave1; walk_say "STEP leave1"; try dsimp only)) | fail "no step"))
      have g := Gr.refl.call (M := M) hsub hfr
      exact hret _ _ _ _ (by assumption) (nsub (by assumption) mv1) (g.alloc (by assumption)).sub (g.alloc (by assumption)).fr (.tuple (.head _) (.cons (.str _ _) (.cons (hdat.mono sub1) .nil))))
  | bin x l r ihl ihr =>
    unfold LawNodeS Spec
    k_fill
    rintro mean mg mb dp un gd cn cs a ccd cl outer A₀ base h₀ L m M P s vs ⟨⟩ Q E B F X N TT hk hDD1 hd hu hret
    obtain ⟨v, rfl, ht⟩ := hDD1
    cases ht with
    | bin hm htl htr =>
    refine wpAny_call ?_
    k_dflt ktr_enter
    w_strict (
      walk_at "norm"
      (rename Fr _ _ _ _ => F1)
      (replace F1 := fr_lk [(Str.ofString "tree", _)] F1)
      (dsimp only [lkm] at F1)
      (repeat' (first | ((fail_if_success (with_reducible (first | refine tW ?_ | refine tI ?_ | refine tF ?_ | refine tC ?_ | refine tX ?_ | refine tR 45 ?_ | refine tR 475 ?_ | refine tR 482 ?_ | refine tR 489 ?_ | refine tR 496 ?_ | refine tR 503 ?_ | refine tR 510 ?_))); first | ((with_reducible show WhileStep2 _ _ _ _ _ _ (Flow.ret _) _); dsimp only [WhileStep2]) | ((with_reducible show TurnP _ _ _ _ _ _ _ _ _ (Flow.ret _) _); dsimp only [TurnP]) | (k_unfold; (try dsimp only)) | (k_end; first | refine' next_q (by with_reducible assumption) ?_ | refine' ret_q (by with_reducible assumption) ?_ | refine' brk_q (by with_reducible assumption) ?_ | refine' cont_q (by with_reducible assumption) ?_) | (k_end; wrow_close) | walk1 | (dsimp only; walk1) | (leave1; walk_say "STEP leave1"; try dsimp only)) | fail "no step"))
      · (rename Fr _ _ _ _ => F2)
        (rename News _ _ _ _ => N2)
        rename_i hc D2 _ l2 _
        rw [show Str.ofString ":" = Nm.col.str from rfl, nm_beq] at hc
        have hx : (if x = .col then Str.ofString "con" else Str.ofString "var") = Str.ofString "con" := by simp_all
        refine' ihl.use M ((D2, _) :: P) () (by k_asm) F2 (by k_asm) N2 mv1 (by k_asm) rfl ⟨_, rfl, htl.mono sub1⟩ (by simp only [Tr.size] at hd ⊢; ktr_room) (by simp only [Tr.size] at hu ⊢; ktr_units) ?_
        rintro r1 P1 h1 tk1 F3 N3 hs1 hf1 hdat1
        have hm1 := hs1 _ (.tail _ hm)
        (repeat' (first | ((fail_if_success (with_reducible (first | refine tW ?_ | refine tI ?_ | refine tF ?_ | refine tC ?_ | refine tX ?_ | refine tR 45 ?_ | refine tR 475 ?_ | refine tR 482 ?_ | refine tR 489 ?_ | refine tR 496 ?_ | refine tR 503 ?_ | refine tR 510 ?_))); first | ((with_reducible show WhileStep2 _ _ _ _ _ _ (Flow.ret _) _); dsimp only [WhileStep2]) | ((with_reducible show TurnP _ _ _ _ _ _ _ _ _ (Flow.ret _) _); dsimp only [TurnP]) | (k_unfold; (try dsimp only)) | (k_end; first | refine' next_q (by with_reducible assumption) ?_ | refine' ret_q (by with_reducible assumption) ?_ | refine' brk_q (by with_reducible assumption) ?_ | refine' cont_q (by with_reducible assumption) ?_) | (k_end; wrow_close) | walk1 | (dsimp only; walk1) | (leave1; walk_say "STEP leave1"; try dsimp only)) | fail "no step"))
        (rename Fr _ _ _ _ => F4)
        (rename News _ _ _ _ => N4)
        rename_i D3 _ l3
        refine' ihr.use M ((D3, _) :: P1) () (by k_asm) F4 (by k_asm) N4 mv1 (by k_asm) rfl ⟨_, rfl, (htr.mono fun p hp => hs1 _ (.tail _ hp)).mono sub1⟩ (by simp only [Tr.size] at hd ⊢; ktr_room) (by simp only [Tr.size] at hu ⊢; ktr_units) ?_
        rintro r2 P2 h2 tk2 F5 N5 hs2 hf2 hdat2
        (repeat' (first | ((fail_if_success (with_reducible (first | refine tW ?_ | refine tI ?_ | refine tF ?_ | refine tC ?_ | refine tX ?_ | refine tR 45 ?_ | refine tR 475 ?_ | refine tR 482 ?_ | refine tR 489 ?_ | refine tR 496 ?_ | refine tR 503 ?_ | refine tR 510 ?_))); first | ((with_reducible show WhileStep2 _ _ _ _ _ _ (Flow.ret _) _); dsimp only [WhileStep2]) | ((with_reducible show TurnP _ _ _ _ _ _ _ _ _ (Flow.ret _) _); dsimp only [TurnP]) | (k_unfold; (try dsimp only)) | (k_end; first | refine' next_q (by with_reducible assumption) ?_ | refine' ret_q (by with_reducible assumption) ?_ | refine' brk_q (by with_reducible assumption) ?_ | refine' cont_q (by with_reducible assumption) ?_) | (k_end; wrow_close) | walk1 | (dsimp only; walk1) | (leave1; walk_say "STEP leave1"; try dsimp only)) | fail "no step"))
        have g := ((((Gr.refl (A := M ++ P) (B := P)).alloc l2).call hs1 hf1).alloc l3 |>.call hs2 hf2)
        refine hret _ _ _ _ (by assumption) (nsub (by assumption) mv1) (g.alloc (by assumption)).sub (g.alloc (by assumption)).fr ?_
        show DatIn _ _ (Tr.dat _)
        rw [Tr.dat, hx]
        exact .tuple (.head _) (.cons (.str _ _) (.cons (.tuple (.tail _ (hs2 _ (.head _))) (.cons (.str _ _) (.cons (.tuple (.tail _ (hs2 _ (.tail _ (hs1 _ (.head _))))) (.cons (.str _ _) (.cons (.str _ _) .nil))) (.cons (hdat1.mono fun p hp => .tail _ (hs2 _ (.tail _ hp))) .nil)))) (.cons (hdat2.mono sub1) .nil)))
      · (rename Fr _ _ _ _ => F2)
        (rename News _ _ _ _ => N2)
        rename_i hc D2 _ l2 _
        rw [show Str.ofString ":" = Nm.col.str from rfl, nm_beq] at hc
        have hx : (if x = .col then Str.ofString "con" else Str.ofString "var") = Str.ofString "var" := by simp_all
        refine' ihl.use M ((D2, _) :: P) () (by k_asm) F2 (by k_asm) N2 mv1 (by k_asm) rfl ⟨_, rfl, htl.mono sub1⟩ (by simp only [Tr.size] at hd ⊢; ktr_room) (by simp only [Tr.size] at hu ⊢; ktr_units) ?_
        rintro r1 P1 h1 tk1 F3 N3 hs1 hf1 hdat1
        have hm1 := hs1 _ (.tail _ hm)
        (repeat' (first | ((fail_if_success (with_reducible (first | refine tW ?_ | refine tI ?_ | refine tF ?_ | refine tC ?_ | refine tX ?_ | refine tR 45 ?_ | refine tR 475 ?_ | refine tR 482 ?_ | refine tR 489 ?_ | refine tR 496 ?_ | refine tR 503 ?_ | refine tR 510 ?_))); first | ((with_reducible show WhileStep2 _ _ _ _ _ _ (Flow.ret _) _); dsimp only [WhileStep2]) | ((with_reducible show TurnP _ _ _ _ _ _ _ _ _ (Flow.ret _) _); dsimp only [TurnP]) | (k_unfold; (try dsimp only)) | (k_end; first | refine' next_q (by with_reducible assumption) ?_ | refine' ret_q (by with_reducible assumption) ?_ | refine' brk_q (by with_reducible assumption) ?_ | refine' cont_q (by with_reducible assumption) ?_) | (k_end; wrow_close) | walk1 | (dsimp only; walk1) | (leave1; walk_say "STEP leave1"; try dsimp only)) | fail "no step"))
        (rename Fr _ _ _ _ => F4)
        (rename News _ _ _ _ => N4)
        rename_i D3 _ l3
        refine' ihr.use M ((D3, _) :: P1) () (by k_asm) F4 (by k_asm) N4 mv1 (by k_asm) rfl ⟨_, rfl, (htr.mono fun p hp => hs1 _ (.tail _ hp)).mono sub1⟩ (by simp only [Tr.size] at hd ⊢; ktr_room) (by simp only [Tr.size] at hu ⊢; ktr_units) ?_
        rintro r2 P2 h2 tk2 F5 N5 hs2 hf2 hdat2
        (repeat' (first | ((fail_if_success (with_reducible (first | refine tW ?_ | refine tI ?_ | refine tF ?_ | refine tC ?_ | refine tX ?_ | refine tR 45 ?_ | refine tR 475 ?_ | refine tR 482 ?_ | refine tR 489 ?_ | refine tR 496 ?_ | refine tR 503 ?_ | refine tR 510 ?_))); first | ((with_reducible show WhileStep2 _ _ _ _ _ _ (Flow.ret _) _); dsimp only [WhileStep2]) | ((with_reducible show TurnP _ _ _ _ _ _ _ _ _ (Flow.ret _) _); dsimp only [TurnP]) | (k_unfold; (try dsimp only)) | (k_end; first | refine' next_q (by with_reducible assumption) ?_ | refine' ret_q (by with_reducible assumption) ?_ | refine' brk_q (by with_reducible assumption) ?_ | refine' cont_q (by with_reducible assumption) ?_) | (k_end; wrow_close) | walk1 | (dsimp only; walk1) | (leave1; walk_say "STEP leave1"; try dsimp only)) | fail "no step"))
        have g := ((((Gr.refl (A := M ++ P) (B := P)).alloc l2).call hs1 hf1).alloc l3 |>.call hs2 hf2)
        refine hret _ _ _ _ (by assumption) (nsub (by assumption) mv1) (g.alloc (by assumption)).sub (g.alloc (by assumption)).fr ?_
        show DatIn _ _ (Tr.dat _)
        rw [Tr.dat, hx]
        exact .tuple (.head _) (.cons (.str _ _) (.cons (.tuple (.tail _ (hs2 _ (.head _))) (.cons (.str _ _) (.cons (.tuple (.tail _ (hs2 _ (.tail _ (hs1 _ (.head _))))) (.cons (.str _ _) (.cons (.str _ _) .nil))) (.cons (hdat1.mono fun p hp => .tail _ (hs2 _ (.tail _ hp))) .nil)))) (.cons (hdat2.mono sub1) .nil))))

end
section
noncomputable def rowF : NT → Addr
  | .lit _ => 151
  | .neg _ => 232
  | .app _ _ => 178
  | .hd x => if x = .col then 124 else 97
theorem node_method : ∀ {w : World} {A : Around} {E : Value → Shared → Prop} {s : Shared} {h₀ : Heap} {L : Addr} {m : Str → Option Value} {nw P : Led} {v : Value} {n : NT} {pl : Sem Bool} {Q : Value × List Value → Shared → Prop} (_ : Fr h₀ L s.heap m) (_ : (Mine.hd.heap_1 w.params).In h₀)
    (_ : News h₀ L s.heap nw) (_ : ∀ p ∈ P, p ∈ nw) (_ : NodeIn P v n) (_ : Q (.ref (rowF n), [v]) s), wpAny (model PySem.Challenge.rw_np0230_01.row.prog w) A (getMethod v (Str.ofString "row") pl) Q E s := by
  k_fill
  intro w A E s h₀ L m nw P v n pl Q F X N hs hn h
  cases hn with
  | lit a b => dsimp only [rowF] at h; exact method_inst F X (InstAt.of_news N (hs _ a) (hs _ b)) (by k_is) (by k_is) (by k_is) (by rfl) h
  | neg a b c => dsimp only [rowF] at h; exact method_inst F X (InstAt.of_news N (hs _ a) (hs _ b)) (by k_is) (by k_is) (by k_is) (by rfl) h
  | app a b c d => dsimp only [rowF] at h; exact method_inst F X (InstAt.of_news N (hs _ a) (hs _ b)) (by k_is) (by k_is) (by k_is) (by rfl) h
  | con a b => exact method_inst F X (InstAt.of_news N (hs _ a) (hs _ b)) (by k_is) (by k_is) (by k_is) (by rfl) (by rw [rowF, if_pos rfl] at h; exact h)
  | var x a b => exact method_inst F X (InstAt.of_news N (hs _ a) (hs _ b)) (by k_is) (by k_is) (by k_is) (by rfl) (by rw [rowF, if_neg x] at h; exact h)
theorem keep_row : ∀ (w : World) (_ : PySem.Challenge.rw_np0230_01.row.prog = PySem.Challenge.rw_np0230_01.row.prog) (n : NT), keepIn (Mine.hd.heap_1 w.params) (.ref (rowF n)) = true := by
  k_fill
  intro w _ n
  cases n with
  | lit i => dsimp only [rowF]; k_is
  | neg n => dsimp only [rowF]; k_is
  | app f a => dsimp only [rowF]; k_is
  | hd x =>
    by_cases h : x = .col
    · rw [rowF, if_pos h]; k_is
    · rw [rowF, if_neg h]; k_is
noncomputable def RowS (w : World) (n : NT) : Prop := Spec w (rowF n) (D := Unit) (fun _ => 5 + n.size)
    (fun P vs _ => ∃ v, vs = [v] ∧ NodeIn P v n) (fun P r _ => DatIn P r n.dat)
theorem row_lit (w : World) (i : Nat) : RowS w (.lit i) := by
  unfold RowS Spec
  k_fill
  rintro mean mg mb dp un gd cn cs a ccd cl outer A₀ base h₀ L m M P s vs ⟨⟩ Q E B F X N TT hk hDD1 hd hu hret
  obtain ⟨v, rfl, ht⟩ := hDD1
  cases ht with
  | lit ha hb =>
  refine wpAny_call ?_
  dsimp only [rowF]
  k_dflt ktr_enter
  w_strict (
    walk_at "norm"
    (rename Fr _ _ _ _ => F1)
    (replace F1 := fr_lk [(Str.ofString "self", _)] F1)
    (dsimp only [lkm] at F1)
    (repeat' (first | ((fail_if_success (with_reducible (first | refine tW ?_ | refine tI ?_ | refine tF ?_ | refine tC ?_ | refine tX ?_ | refine tR 45 ?_ | refine tR 475 ?_ | refine tR 482 ?_ | refine tR 489 ?_ | refine tR 496 ?_ | refine tR 503 ?_ | refine tR 510 ?_))); first | ((with_reducible show WhileStep2 _ _ _ _ _ _ (Flow.ret _) _); dsimp only [WhileStep2]) | ((with_reducible show TurnP _ _ _ _ _ _ _ _ _ (Flow.ret _) _); dsimp only [TurnP]) | (k_unfold; (try dsimp only)) | (k_end; first | refine' next_q (by with_reducible assumption) ?_ | refine' ret_q (by with_reducible assumption) ?_ | refine' brk_q (by with_reducible assumption) ?_ | refine' cont_q (by with_reducible assumption) ?_) | (k_end; wrow_close) | walk1 | (dsimp only; walk1) | (leave1; walk_say "STEP leave1"; try dsimp only)) | fail "no step"))
    exact hret _ _ _ _ (by assumption) (nsub (by assumption) mv1) sub1 (fr1 (by assumption)) (.tuple (.head _) (.cons (.str _ _) (.cons (.str _ _) (.cons (.int _ _) .nil)))))
theorem row_hd (w : World) (x : Nm) : RowS w (.hd x) := by
  unfold RowS Spec
  k_fill
  rintro mean mg mb dp un gd cn cs a ccd cl outer A₀ base h₀ L m M P s vs ⟨⟩ Q E B F X N TT hk hDD1 hd hu hret
  obtain ⟨v, rfl, ht⟩ := hDD1
  cases ht with
  | con ha hb =>
    refine wpAny_call ?_
    rw [rowF, if_pos rfl]
    k_dflt ktr_enter
    w_strict (
      walk_at "norm"
      (rename Fr _ _ _ _ => F1)
      (replace F1 := fr_lk [(Str.ofString "self", _)] F1)
      (dsimp only [lkm] at F1)
      (repeat' (first | ((fail_if_success (with_reducible (first | refine tW ?_ | refine tI ?_ | refine tF ?_ | refine tC ?_ | refine tX ?_ | refine tR 45 ?_ | refine tR 475 ?_ | refine tR 482 ?_ | refine tR 489 ?_ | refine tR 496 ?_ | refine tR 503 ?_ | refine tR 510 ?_))); first | ((with_reducible show WhileStep2 _ _ _ _ _ _ (Flow.ret _) _); dsimp only [WhileStep2]) | ((with_reducible show TurnP _ _ _ _ _ _ _ _ _ (Flow.ret _) _); dsimp only [TurnP]) | (k_unfold; (try dsimp only)) | (k_end; first | refine' next_q (by with_reducible assumption) ?_ | refine' ret_q (by with_reducible assumption) ?_ | refine' brk_q (by with_reducible assumption) ?_ | refine' cont_q (by with_reducible assumption) ?_) | (k_end; wrow_close) | walk1 | (dsimp only; walk1) | (leave1; walk_say "STEP leave1"; try dsimp only)) | fail "no step"))
      exact hret _ _ _ _ (by assumption) (nsub (by assumption) mv1) sub1 (fr1 (by assumption)) (.tuple (.head _) (.cons (.str _ _) (.cons (.str _ _) .nil))))
  | var hx ha hb =>
    refine wpAny_call ?_
    rw [rowF, if_neg hx]
    k_dflt ktr_enter
    w_strict (
      walk_at "norm"
      (rename Fr _ _ _ _ => F1)
      (replace F1 := fr_lk [(Str.ofString "self", _)] F1)
      (dsimp only [lkm] at F1)
      (repeat' (first | ((fail_if_success (with_reducible (first | refine tW ?_ | refine tI ?_ | refine tF ?_ | refine tC ?_ | refine tX ?_ | refine tR 45 ?_ | refine tR 475 ?_ | refine tR 482 ?_ | refine tR 489 ?_ | refine tR 496 ?_ | refine tR 503 ?_ | refine tR 510 ?_))); first | ((with_reducible show WhileStep2 _ _ _ _ _ _ (Flow.ret _) _); dsimp only [WhileStep2]) | ((with_reducible show TurnP _ _ _ _ _ _ _ _ _ (Flow.ret _) _); dsimp only [TurnP]) | (k_unfold; (try dsimp only)) | (k_end; first | refine' next_q (by with_reducible assumption) ?_ | refine' ret_q (by with_reducible assumption) ?_ | refine' brk_q (by with_reducible assumption) ?_ | refine' cont_q (by with_reducible assumption) ?_) | (k_end; wrow_close) | walk1 | (dsimp only; walk1) | (leave1; walk_say "STEP leave1"; try dsimp only)) | fail "no step"))
      refine hret _ _ _ _ (by assumption) (nsub (by assumption) mv1) sub1 (fr1 (by assumption)) ?_
      show DatIn _ _ (NT.dat _)
      rw [NT.dat, if_neg hx]
      exact .tuple (.head _) (.cons (.str _ _) (.cons (.str _ _) .nil)))
theorem row_neg (w : World) (n : NT) (ih : RowS w n) : RowS w (.neg n) := by
  unfold RowS Spec
  k_fill
  rintro mean mg mb dp un gd cn cs a ccd cl outer A₀ base h₀ L m M P s vs ⟨⟩ Q E B F X N TT hk hDD1 hd hu hret
  obtain ⟨v, rfl, ht⟩ := hDD1
  cases ht with
  | neg ha hb hn =>
  refine wpAny_call ?_
  dsimp only [rowF]
  k_dflt ktr_enter
  w_strict (
    walk_at "norm"
    (rename Fr _ _ _ _ => F1)
    (replace F1 := fr_lk [(Str.ofString "self", _)] F1)
    (dsimp only [lkm] at F1)
    (repeat' (first | ((fail_if_success (with_reducible (first | refine tW ?_ | refine tI ?_ | refine tF ?_ | refine tC ?_ | refine tX ?_ | refine tR 45 ?_ | refine tR 475 ?_ | refine tR 482 ?_ | refine tR 489 ?_ | refine tR 496 ?_ | refine tR 503 ?_ | refine tR 510 ?_))); first | ((with_reducible show WhileStep2 _ _ _ _ _ _ (Flow.ret _) _); dsimp only [WhileStep2]) | ((with_reducible show TurnP _ _ _ _ _ _ _ _ _ (Flow.ret _) _); dsimp only [TurnP]) | (k_unfold; (try dsimp only)) | (k_end; first | refine' next_q (by with_reducible assumption) ?_ | refine' ret_q (by with_reducible assumption) ?_ | refine' brk_q (by with_reducible assumption) ?_ | refine' cont_q (by with_reducible assumption) ?_) | (k_end; wrow_close) | walk1 | (dsimp only; walk1) | (leave1; walk_say "STEP leave1"; try dsimp only)) | fail "no step"))
    refine' node_method (by k_asm) (by k_asm) (by k_asm) (fun _ h => List.mem_append_right _ h) hn ?_
    dsimp only
    refine' callWith_K0 ?X (keep_row w rfl _) ?_
    (case X => k_in)
    refine' ih.use M P () (by k_asm) (by k_asm) (by k_asm) (by k_asm) sub0 (by k_asm) rfl ⟨_, rfl, hn⟩ (by simp only [NT.size] at hd ⊢; ktr_room) (by simp only [NT.size] at hu ⊢; ktr_units) ?_
    rintro r P' h' tk' F1 N1 hsub hfr hdat
    (repeat' (first | ((fail_if_success (with_reducible (first | refine tW ?_ | refine tI ?_ | refine tF ?_ | refine tC ?_ | refine tX ?_ | refine tR 45 ?_ | refine tR 475 ?_ | refine tR 482 ?_ | refine tR 489 ?_ | refine tR 496 ?_ | refine tR 503 ?_ | refine tR 510 ?_))); first | ((with_reducible show WhileStep2 _ _ _ _ _ _ (Flow.ret _) _); dsimp only [WhileStep2]) | ((with_reducible show TurnP _ _ _ _ _ _ _ _ _ (Flow.ret _) _); dsimp only [TurnP]) | (k_unfold; (try dsimp only)) | (k_end; first | refine' next_q (by with_reducible assumption) ?_ | refine' ret_q (by with_reducible assumption) ?_ | refine' brk_q (by with_reducible assumption) ?_ | refine' cont_q (by with_reducible assumption) ?_) | (k_end; wrow_close) | walk1 | (dsimp only; walk1) | (leave1; walk_say "STEP leave1"; try dsimp only)) | fail "no step"))
    have g := Gr.refl.call (M := M) hsub hfr
    exact hret _ _ _ _ (by assumption) (nsub (by assumption) mv1) (g.alloc (by assumption)).sub (g.alloc (by assumption)).fr (.tuple (.head _) (.cons (.str _ _) (.cons (hdat.mono sub1) .nil))))
theorem row_app (w : World) (n n2 : NT) (ih : RowS w n) (ih2 : RowS w n2) : RowS w (.app n n2) := by
  unfold RowS Spec
  k_fill
  rintro mean mg mb dp un gd cn cs a ccd cl outer A₀ base h₀ L m M P s vs ⟨⟩ Q E B F X N TT hk hDD1 hd hu hret
  obtain ⟨v, rfl, ht⟩ := hDD1
  cases ht with
  | app ha hb hn hn2 =>
  refine wpAny_call ?_
  dsimp only [rowF]
  k_dflt ktr_enter
  w_strict (
    walk_at "norm"
    (rename Fr _ _ _ _ => F1)
    (replace F1 := fr_lk [(Str.ofString "self", _)] F1)
    (dsimp only [lkm] at F1)
    (repeat' (first | ((fail_if_success (with_reducible (first | refine tW ?_ | refine tI ?_ | refine tF ?_ | refine tC ?_ | refine tX ?_ | refine tR 45 ?_ | refine tR 475 ?_ | refine tR 482 ?_ | refine tR 489 ?_ | refine tR 496 ?_ | refine tR 503 ?_ | refine tR 510 ?_))); first | ((with_reducible show WhileStep2 _ _ _ _ _ _ (Flow.ret _) _); dsimp only [WhileStep2]) | ((with_reducible show TurnP _ _ _ _ _ _ _ _ _ (Flow.ret _) _); dsimp only [TurnP]) | (k_unfold; (try dsimp only)) | (k_end; first | refine' next_q (by with_reducible assumption) ?_ | refine' ret_q (by with_reducible assumption) ?_ | refine' brk_q (by with_reducible assumption) ?_ | refine' cont_q (by with_reducible assumption) ?_) | (k_end; wrow_close) | walk1 | (dsimp only; walk1) | (leave1; walk_say "STEP leave1"; try dsimp only)) | fail "no step"))
    refine' node_method (by k_asm) (by k_asm) (by k_asm) (fun _ h => List.mem_append_right _ h) hn ?_
    dsimp only
    refine' callWith_K0 ?X (keep_row w rfl _) ?_
    (case X => k_in)
    refine' ih.use M P () (by k_asm) (by k_asm) (by k_asm) (by k_asm) sub0 (by k_asm) rfl ⟨_, rfl, hn⟩ (by simp only [NT.size] at hd ⊢; ktr_room) (by simp only [NT.size] at hu ⊢; ktr_units) ?_
    rintro r P' h' tk' F1 N1 hsub hfr hdat
    have ha1 := hsub _ ha
    have hb1 := hsub _ hb
    (repeat' (first | ((fail_if_success (with_reducible (first | refine tW ?_ | refine tI ?_ | refine tF ?_ | refine tC ?_ | refine tX ?_ | refine tR 45 ?_ | refine tR 475 ?_ | refine tR 482 ?_ | refine tR 489 ?_ | refine tR 496 ?_ | refine tR 503 ?_ | refine tR 510 ?_))); first | ((with_reducible show WhileStep2 _ _ _ _ _ _ (Flow.ret _) _); dsimp only [WhileStep2]) | ((with_reducible show TurnP _ _ _ _ _ _ _ _ _ (Flow.ret _) _); dsimp only [TurnP]) | (k_unfold; (try dsimp only)) | (k_end; first | refine' next_q (by with_reducible assumption) ?_ | refine' ret_q (by with_reducible assumption) ?_ | refine' brk_q (by with_reducible assumption) ?_ | refine' cont_q (by with_reducible assumption) ?_) | (k_end; wrow_close) | walk1 | (dsimp only; walk1) | (leave1; walk_say "STEP leave1"; try dsimp only)) | fail "no step"))
    refine' node_method (by k_asm) (by k_asm) (by k_asm) (fun _ h => List.mem_append_right _ h) (hn2.mono hsub) ?_
    dsimp only
    refine' callWith_K0 ?X (keep_row w rfl _) ?_
    (case X => k_in)
    refine' ih2.use M P' () (by k_asm) (by k_asm) (by k_asm) (by k_asm) sub0 (by k_asm) rfl ⟨_, rfl, hn2.mono hsub⟩ (by simp only [NT.size] at hd ⊢; ktr_room) (by simp only [NT.size] at hu ⊢; ktr_units) ?_
    rintro r2 P2 h2 tk2 F2 N2 hsub2 hfr2 hdat2
    (repeat' (first | ((fail_if_success (with_reducible (first | refine tW ?_ | refine tI ?_ | refine tF ?_ | refine tC ?_ | refine tX ?_ | refine tR 45 ?_ | refine tR 475 ?_ | refine tR 482 ?_ | refine tR 489 ?_ | refine tR 496 ?_ | refine tR 503 ?_ | refine tR 510 ?_))); first | ((with_reducible show WhileStep2 _ _ _ _ _ _ (Flow.ret _) _); dsimp only [WhileStep2]) | ((with_reducible show TurnP _ _ _ _ _ _ _ _ _ (Flow.ret _) _); dsimp only [TurnP]) | (k_unfold; (try dsimp only)) | (k_end; first | refine' next_q (by with_reducible assumption) ?_ | refine' ret_q (by with_reducible assumption) ?_ | refine' brk_q (by with_reducible assumption) ?_ | refine' cont_q (by with_reducible assumption) ?_) | (k_end; wrow_close) | walk1 | (dsimp only; walk1) | (leave1; walk_say "STEP leave1"; try dsimp only)) | fail "no step"))
    have g := (Gr.refl.call (M := M) hsub hfr).call hsub2 hfr2
    exact hret _ _ _ _ (by assumption) (nsub (by assumption) mv1) (g.alloc (by assumption)).sub (g.alloc (by assumption)).fr (.tuple (.head _) (.cons (.str _ _) (.cons (hdat.mono fun p hp => .tail _ (hsub2 p hp)) (.cons (hdat2.mono sub1) .nil)))))
theorem row_spec (w : World) : ∀ n : NT, RowS w n
  | .lit i => row_lit w i
  | .neg n => row_neg w n (row_spec w n)
  | .app f a => row_app w f a (row_spec w f) (row_spec w a)
  | .hd x => row_hd w x

end
section
-- ## a call behind which the caller's ground may have turned (a callee that catches)
noncomputable def LeaveT (fs : List Addr) (A₀ : Around) (base : Heap) (outer : List Env) (K : Frag) (p : Program) (loose : List Str) (mean : ExcName → Option Value) (mg mb : Str → Option Value) (h₀ : Heap) (L : Addr) (m : Str → Option Value) (g : Heap) (R : PySem.Result → Shared → Prop) (v : Value) (s' : Shared) : Prop :=
  ∃ g' L' m' news', KtsTurn fs g g' ∧ Fr g' L' s'.heap m' ∧ News g' L' s'.heap news' ∧ ∀ h₀', KtsTurn (outer.filterMap (·.frame)) h₀ h₀' → Fr h₀' L s'.heap m → News h₀' L s'.heap news' → Below A₀ base outer h₀' → K.In h₀' → Top p loose mean mg mb h₀' →
    KtsDicts (outer.filterMap (·.frame)) h₀' → R (.ok (.ret v)) s'
theorem memT {env : Env} {L b : Addr} {outer : List Env} (hf : env.frame = some L) (hm : b ∈ (env :: outer).filterMap (·.frame)) : b = L ∨ b ∈ outer.filterMap (·.frame) := by
  rw [List.filterMap_cons, hf] at hm
  exact (List.mem_cons.mp hm)
theorem leave_onT {M : Model} {A : Around} {base g g₂ : Heap} {outer : List Env} {env : Env} {L e : Addr} {m : Str → Option Value} {cls : Value} {news : Led} {s' : Shared} {Q : Unit → Shared → Prop} {E : Value → Shared → Prop}
    (K : Below A base outer g) (hf : env.frame = some L) (F : Fr g L g₂ m) (R : RaisedSN base g₂ (env :: outer) e cls news s'.heap) (hsm : g₂.UpToSlots s'.heap)
    (hQ : ∀ h', RaisedSN base g outer e cls news h' → g.UpToSlots h' → Q () { s' with heap := h' }) : wpAny M (A.deeper env) (leaving env (.ref e)) Q E s' := by
  obtain ⟨B, a0, hB, hBG, hl, hfl⟩ := R
  refine wpAny_leaves_onW (Around.frames_deeper K.stack) hf hfl fun h' x1 x2 => hQ h' ⟨B, a0, hB, fun b o q nm => hBG b o (F.keep b o q) fun hm => ?_, fun q hq => ⟨(hl q hq).1, kts_none F.keep (hl q hq).2.1, (hl q hq).2.2⟩, x1⟩ ((Heap.UpToSlots.of_keeps F.keep).trans (hsm.trans x2))
  rcases memT hf hm with z | z
  · rw [z, kts_self F] at q
    cases q
  · exact nm z
section
variable {prog : Program} {w : World} {A₀ A : Around} {s : Shared} {base h₀ : Heap} {outer : List Env} {L : Addr} {m : Str → Option Value} {env : Env} {news : Led} {K : Frag} {p : Program} {loose : List Str} {mean : ExcName → Option Value} {mg mb : Str → Option Value} {R : PySem.Result → Shared → Prop}
theorem groundT (B : Below A₀ base outer h₀) (F : Fr h₀ L s.heap m) (N : News h₀ L s.heap news) (XB : K.In base) (TB : Top p loose mean mg mb base) (D : KtsDicts (outer.filterMap (·.frame)) h₀) (hA : A.frames = some (env :: outer)) (hf : env.frame = some L) (hke : env.scope.kind = .function) :
    Fr h₀ L (hideAll s.heap (news.map (·.1))) m ∧ Below A base (env :: outer) (hideAll s.heap (news.map (·.1))) ∧ h₀.StaysIn (hideAll s.heap (news.map (·.1))) ∧ KtsDicts ((env :: outer).filterMap (·.frame)) (hideAll s.heap (news.map (·.1))) ∧
      ∀ v s', LeaveT ((env :: outer).filterMap (·.frame)) A₀ base outer K p loose mean mg mb h₀ L m (hideAll s.heap (news.map (·.1))) R v s' → R (.ok (.ret v)) s' := by
  obtain ⟨FG, BG, st, -⟩ := groundX (R := R) B F N hA hf hke
  obtain ⟨oL, es, ep, hLg, hLd, hLk, hLf⟩ := FG.ns
  have nL₀ : h₀.get? L = none := kts_self F
  refine ⟨FG, BG, st, fun b hb => ?_, fun v s' hl => ?_⟩
  · rcases memT hf hb with rfl | hb
    · exact ⟨oL, es, ep, hLg, hLd⟩
    · obtain ⟨o, es', n', ho', hd'⟩ := D b hb
      exact ⟨o, es', n', st b o ho', hd'⟩
  obtain ⟨g', L', m', news', T', F', N', k⟩ := hl
  obtain ⟨sl, hs⟩ := T'.up hLg
  obtain ⟨T₁, S₁⟩ := kts_turn_at (h := s'.heap) (fs := outer.filterMap (·.frame)) (g := h₀)
    (fun b hb => by obtain ⟨_, o, ho', _⟩ := B.frames.mem hb; exact ⟨o, ho'⟩)
    (fun b o e nmem => F'.keep b o (T'.other b o (st b o e) (fun q => (memT hf q).elim (fun z => by rw [z, nL₀] at e; cases e) nmem)))
    (fun b o e hm => (T'.up (st b o e)).elim fun sl' hs' => ⟨sl', F'.keep _ _ hs'⟩)
  have B₃ : Below A₀ base outer (ktsHeap s'.heap (outer.filterMap (·.frame)) h₀) := ⟨B.stack, fun b o e => T₁.other b o (B.stays b o e) (fun hm => by rw [(B.frames.mem hm).1] at e; cases e), B.frames.of_keeps fun b o e _ => (T₁.up e).elim fun sl' hs' => ⟨_, hs', rfl⟩⟩
  refine k _ T₁ ⟨⟨_, es, ep, F'.keep _ _ hs, hLd, hLk, hLf⟩, S₁, by rw [T₁.size]; exact F.above⟩ (fun p hp => ⟨(N' p hp).1, fun q => ?_, T₁.none_ _ ?_⟩) B₃ (XB.keeps B₃.stays) (TB.keeps B₃.stays) (D.turn T₁)
  · have := (N' p hp).2.2; rw [q, hs] at this; cases this
  · cases q : h₀.get? p.1 with
    | none => rfl
    | some o =>
      obtain ⟨sl', hs'⟩ := T'.up (st _ _ q)
      have := (N' p hp).2.2
      rw [hs'] at this
      cases this
variable {name qual : Str} {params : Arguments} {body : List Stmt} {scope : Scope} {dV kV doc pm cdv ct oc : Value} {an od : Option Addr} {osl : Array (Option Value)} {f : Addr} {args : Args} {binds : List (Str × Value)}
theorem code_defT (B : Below A₀ base outer h₀) (F : Fr h₀ L s.heap m) (X₀ : K.In h₀) (N : News h₀ L s.heap news) (T : Top p loose mean mg mb h₀) (XB : K.In base) (TB : Top p loose mean mg mb base) (D : KtsDicts (outer.filterMap (·.frame)) h₀) (hA : A.frames = some (env :: outer)) (hf : env.frame = some L) (hke : env.scope.kind = .function)
    (ho : K.lookup f = some ⟨oc, od, .func (fnOf name qual params body scope dV kV doc pm an cdv ct), osl⟩) (hcd : codeIn K cdv qual = true) (hroom : A.depth < recursionLimit)
    (hbind : BindsTo s (fnOf name qual params body scope dV kV doc pm an cdv ct) args binds) (hloc : ∀ y ∈ binds, scope.names.lookup y.1 = some .local)
    (h : ∀ g L' h₁, Fr h₀ L g m → Fr g L' h₁ (fun y => binds.reverse.lookup y) → News g L' h₁ news → Below A base (env :: outer) g → K.In g → Top p loose mean mg mb g → KtsDicts ((env :: outer).filterMap (·.frame)) g →
      wpAny (model prog w) (A.deeper (envOf qual scope L' f cdv)) (execs body (envOf qual scope L' f cdv))
        (fun fl s' => LeaveT ((env :: outer).filterMap (·.frame)) A₀ base outer K p loose mean mg mb h₀ L m g R (match fl with | .ret v => v | _ => .none) s')
        (fun e s' => wpAny (model prog w) (A.deeper (envOf qual scope L' f cdv)) (leaving (envOf qual scope L' f cdv) e) (fun _ s'' => R (.error e) s'') (fun e' s'' => R (.error e') s'') s')
        { s with heap := h₁, toks := s.toks + binds.length })
    (hco : scope.isCoroutine = false) (hgen : scope.isGenerator = false) (hk : scope.kind = .function)
    (hcell : ∀ x ∈ scope.names, x.2 ≠ .cell) : codeAny (model prog w) A (.call (.ref f) args) R s := by
  obtain ⟨FG, BG, st, DG, lv⟩ := groundT (R := R) B F N XB TB D hA hf hke
  have X := X₀.keeps F.keep
  refine codeAny_call_def (fd := fnOf name qual params body scope dV kV doc pm an cdv ct) (body := body) (binds := binds) hroom (X _ _ ho) rfl (T.nolimit.keeps F.keep) (codeRec_of X hcd) rfl hbind hcell hloc (fun h₁ hns hk₁ => ?_) hco hgen hk
  exact wpAny_mono (h _ s.heap.objs.size h₁ FG ⟨hns, fun b o e => hk₁ b o (of_hideAll _ e), Nat.le_of_eq (hideAll_size _ _)⟩
    (fun p hp => ⟨hk₁ _ _ (N p hp).1, Nat.ne_of_lt (Heap.lt_size (N p hp).1), hideAll_none _ (List.mem_map_of_mem hp)⟩) BG (X₀.keeps st) (T.keeps st) DG) (fun fl s' hl => lv _ _ hl) fun _ _ y => y
theorem code_defTC (B : Below A₀ base outer h₀) (F : Fr h₀ L s.heap m) (X₀ : K.In h₀) (N : News h₀ L s.heap news) (T : Top p loose mean mg mb h₀) (XB : K.In base) (TB : Top p loose mean mg mb base) (D : KtsDicts (outer.filterMap (·.frame)) h₀) (hA : A.frames = some (env :: outer)) (hf : env.frame = some L) (hke : env.scope.kind = .function)
    (ho : K.lookup f = some ⟨oc, od, .func (fnOf name qual params body scope dV kV doc pm an cdv ct), osl⟩) (hcd : codeIn K cdv qual = true) (hroom : A.depth < recursionLimit)
    (hbind : BindsTo s (fnOf name qual params body scope dV kV doc pm an cdv ct) args binds) (hkind : (binds.all fun y => scope.names.lookup y.1 == some .local || scope.names.lookup y.1 == some .cell) = true)
    (hnd : ((cellsFrom 0 scope.names []).map (·.1)).Nodup)
    (h : ∀ g L' h₁ tk cells, Fr h₀ L g m → Fr g L' h₁ (bindL (envOfC qual scope L' f cdv).kindOf binds fun _ => none) → News g L' h₁ (cells ++ news) →
      CellsAre (bindC (envOfC qual scope L' f cdv).kindOf binds fun _ => none) (cellsFrom (L' + 1) scope.names []) cells → Below A base (env :: outer) g → K.In g → Top p loose mean mg mb g → KtsDicts ((env :: outer).filterMap (·.frame)) g → (∀ p ∈ news, p.1 < L') →
      wpAny (model prog w) (A.deeper (envOfC qual scope L' f cdv)) (execs body (envOfC qual scope L' f cdv))
        (fun fl s' => LeaveT ((env :: outer).filterMap (·.frame)) A₀ base outer K p loose mean mg mb h₀ L m g R (match fl with | .ret v => v | _ => .none) s')
        (fun e s' => wpAny (model prog w) (A.deeper (envOfC qual scope L' f cdv)) (leaving (envOfC qual scope L' f cdv) e) (fun _ s'' => R (.error e) s'') (fun e' s'' => R (.error e') s'') s')
        { s with heap := h₁, toks := tk })
    (hco : scope.isCoroutine = false) (hgen : scope.isGenerator = false) (hk : scope.kind = .function) : codeAny (model prog w) A (.call (.ref f) args) R s := by
  obtain ⟨FG, BG, st, DG, lv⟩ := groundT (R := R) B F N XB TB D hA hf hke
  have X := X₀.keeps F.keep
  refine codeAny_call_function hroom (X _ _ ho) rfl hco hgen rfl (codeRec_of X hcd) (hbind _ _ _ _ ?_)
  refine wpAny_newFunctionEnv_cells hk (kindsX hkind _) fun env' he s' x => ?_
  subst he
  refine ⟨((T.nolimit).keeps F.keep).keeps x.toInCall.keep, codeAny_func ?_⟩
  obtain ⟨h₁, tk, rfl, _⟩ := x.done
  have hk₁ := x.toInCall.keep
  obtain ⟨cells, NC, Y⟩ := Cl.news (h₀ := s.heap) (Nat.le_refl _) fun n c hm => ⟨x.cell n c (lookup_of_mem_nodup (cellsFrom_names scope.names 0 (s.heap.objs.size + 1) [] [] rfl ▸ hnd) hm), x.above n c hm⟩
  refine wpAny_mono (h _ s.heap.objs.size h₁ tk cells FG ⟨x.toInCall.ns, fun b o e => hk₁ b o (of_hideAll _ e), Nat.le_of_eq (hideAll_size _ _)⟩ (fun p hp => ?_) Y BG (X₀.keeps st) (T.keeps st) DG (fun p hp => Heap.lt_size (N p hp).1)) (fun fl s' hl => lv _ _ hl) fun _ _ y => y
  rcases List.mem_append.mp hp with hp | hp
  · refine ⟨(NC p hp).1, (NC p hp).2.1, ?_⟩
    cases q : (hideAll s.heap (news.map (·.1))).get? p.1 with
    | none => rfl
    | some o => have := of_hideAll _ q; rw [(NC p hp).2.2] at this; cases this
  · exact ⟨hk₁ _ _ (N p hp).1, Nat.ne_of_lt (Heap.lt_size (N p hp).1), hideAll_none _ (List.mem_map_of_mem hp)⟩
end
noncomputable def TSpec (w : World) (f : Addr) {D : Type} (dep : D → Nat) (Pre : Led → List Value → D → Prop) (Post : Led → Value → D → Prop) : Prop :=
  ∀ (mean : ExcName → Option Value) (mg mb : Str → Option Value) (dp un : Nat) (gd : Option (List Code)) (cn : Str) (cs : Scope) (a : Addr) (ccd : Value) (cl : List (Str × Addr)) (outer : List Env) (A₀ : Around) (base h₀ : Heap) (L : Addr) (m : Str → Option Value) (M P : Led) (s : Shared) (vs : List Value) (d : D)
    (Q E : Value → Shared → Prop),
    Below A₀ base outer h₀ → Fr h₀ L s.heap m → (Mine.hd.heap_1 w.params).In h₀ → News h₀ L s.heap (M ++ P) → Top topProg LO2 mean mg mb h₀ → (Mine.hd.heap_1 w.params).In base → Top topProg LO2 mean mg mb base → KtsDicts (outer.filterMap (·.frame)) h₀ → cs.kind = .function → Pre P vs d → dp + dep d < recursionLimit → un + 8 * dep d < cLine →
    (∀ h₀' r P' h' tk', KtsTurn (outer.filterMap (·.frame)) h₀ h₀' → Below A₀ base outer h₀' → (Mine.hd.heap_1 w.params).In h₀' → Top topProg LO2 mean mg mb h₀' → KtsDicts (outer.filterMap (·.frame)) h₀' → Fr h₀' L h' m → News h₀' L h' (M ++ P') → (∀ p ∈ P, p ∈ P') → (∀ p ∈ P', p ∈ P ∨ ∀ q ∈ M ++ P, q.1 ≠ p.1) → Post P' r d → Q r { s with heap := h', toks := tk' }) →
    wpAny (model PySem.Challenge.rw_np0230_01.row.prog w) (ktrTop dp un gd cn cs L a ccd cl outer) (call (.ref f) vs) Q E s
theorem TSpec.use {w : World} {f : Addr} {D : Type} {dep : D → Nat} {Pre : Led → List Value → D → Prop} {Post : Led → Value → D → Prop} (S : TSpec w f dep Pre Post) (M P : Led) (d : D)
    {mean : ExcName → Option Value} {mg mb : Str → Option Value} {dp un : Nat} {gd : Option (List Code)} {cn : Str} {cs : Scope} {a : Addr} {ccd : Value} {cl : List (Str × Addr)} {outer : List Env} {A₀ : Around} {base h₀ : Heap} {L : Addr} {m : Str → Option Value} {nw : Led} {s : Shared} {vs : List Value} {Q E : Value → Shared → Prop}
    (B : Below A₀ base outer h₀) (F : Fr h₀ L s.heap m) (X : (Mine.hd.heap_1 w.params).In h₀) (N : News h₀ L s.heap nw) (hs : ∀ p ∈ M ++ P, p ∈ nw) (TT : Top topProg LO2 mean mg mb h₀) (XB : (Mine.hd.heap_1 w.params).In base) (TB : Top topProg LO2 mean mg mb base) (DD : KtsDicts (outer.filterMap (·.frame)) h₀) (hk : cs.kind = .function) (hp : Pre P vs d) (hd : dp + dep d < recursionLimit) (hu : un + 8 * dep d < cLine)
    (ret : ∀ h₀' r P' h' tk', KtsTurn (outer.filterMap (·.frame)) h₀ h₀' → Below A₀ base outer h₀' → (Mine.hd.heap_1 w.params).In h₀' → Top topProg LO2 mean mg mb h₀' → KtsDicts (outer.filterMap (·.frame)) h₀' → Fr h₀' L h' m → News h₀' L h' (M ++ P') → (∀ p ∈ P, p ∈ P') → (∀ p ∈ P', p ∈ P ∨ ∀ q ∈ M ++ P, q.1 ≠ p.1) → Post P' r d → Q r { s with heap := h', toks := tk' }) :
    wpAny (model PySem.Challenge.rw_np0230_01.row.prog w) (ktrTop dp un gd cn cs L a ccd cl outer) (call (.ref f) vs) Q E s :=
  S mean mg mb dp un gd cn cs a ccd cl outer A₀ base h₀ L m M P s vs d Q E B F X (nsub N hs) TT XB TB DD hk hp hd hu ret
section
variable {prog : Program} {w : World} {A : Around} {s : Shared} {h₀ : Heap} {L : Addr} {m : Str → Option Value} {env : Env}
theorem comp_restT {ct elt : PySem.Expr} {x : Str} {scope : Scope} {cl : List (Str × Addr)} {S : Led → Prop} {PP : Nat → Value → Prop} {Fin : List Value → Led → Prop} {M P : Led} {n : Nat} (J : Nat → List Value → Led → Prop)
    (step : ∀ i ys Pi v I oI C oC D m₂ h tk (E' : Value → Shared → Prop), i < n → J i ys Pi → PP i v → LCg.NsObj oC m₂ → m₂ x = some v → Fr h₀ L h m → News h₀ L h ((I, oI) :: (C, oC) :: (D, LCg.lst ys) :: (M ++ Pi)) → LCg.Off3 I C D (M ++ Pi) →
      wpAny (model prog w) A (isTrue ct (compEnvC scope cl C env) (eval ct (compEnvC scope cl C env))) (fun ok s' => if ok = true then
        wpAny (model prog w) A (eval elt (compEnvC scope cl C env)) (LCg.CompEnd h₀ L m { s with heap := h, toks := tk } I oI C oC D (LCg.lst ys) S (fun y news' => ∃ Pi', news' = M ++ Pi' ∧ J (i + 1) (ys ++ [y]) Pi')) E' s'
        else LCg.CompEnd h₀ L m { s with heap := h, toks := tk } I oI C oC D (LCg.lst ys) S (fun _ news' => ∃ Pi', news' = M ++ Pi' ∧ J (i + 1) ys Pi') Value.none s') E' { s with heap := h, toks := tk })
    (hJ : J 0 [] P) (fin : ∀ ys Pi, J n ys Pi → Fin ys (M ++ Pi)) : LCt.CompRestT prog w A h₀ L m env ct elt x scope cl s S PP Fin n 0 [] (M ++ P) := by
  have key : ∀ (j i : Nat) (ys : List Value) (Pi : Led), i + j = n → J i ys Pi → LCt.CompRestT prog w A h₀ L m env ct elt x scope cl s S PP Fin j i ys (M ++ Pi) := by
    intro j
    induction j with
    | zero =>
      intro i ys Pi hi hy
      obtain rfl : i = n := by omega
      exact LCt.CompRestT.zero (fin ys Pi hy)
    | succ j ih =>
      intro i ys Pi hi hy
      refine LCt.CompRestT.succ ?_
      intro v I oI C oC D m₂ h tk E' hv hC hx F N off ne
      refine wpAny_mono (step i ys Pi v I oI C oC D m₂ h tk E' (by omega) hy hv hC hx F N off) (fun ok s₂ hq => ?_) fun _ _ e => e
      cases ok with
      | true =>
        simp only [if_true] at hq ⊢
        refine wpAny_mono hq (fun y s₃ hq => ?_) fun _ _ e => e
        obtain ⟨h', tk', nw, e, F', N', off', hS, Pi', rfl, hJ'⟩ := hq
        exact ⟨h', tk', _, e, F', N', off', hS, ih (i + 1) _ Pi' (by omega) hJ'⟩
      | false =>
        simp only [Bool.false_eq_true, if_false] at hq ⊢
        obtain ⟨h', tk', nw, e, F', N', off', hS, Pi', rfl, hJ'⟩ := hq
        exact ⟨h', tk', _, e, F', N', off', hS, ih (i + 1) _ Pi' (by omega) hJ'⟩
  exact key n 0 [] P (by omega) hJ
end

end
section
-- ## _law_told
theorem leaveT_ {fs : List Addr} {A₀ : Around} {base : Heap} {outer : List Env} {K : Frag} {p : Program} {loose : List Str} {mean : ExcName → Option Value} {mg mb : Str → Option Value} {h₀ g g' : Heap} {L L' : Addr} {m m' : Str → Option Value} {news' : Led} {R : PySem.Result → Shared → Prop} {v : Value} {s' : Shared}
    (F' : Fr g' L' s'.heap m') (N' : News g' L' s'.heap news') (T : KtsTurn fs g g')
    (k : ∀ h₀', KtsTurn (outer.filterMap (·.frame)) h₀ h₀' → Fr h₀' L s'.heap m → News h₀' L s'.heap news' → Below A₀ base outer h₀' → K.In h₀' → Top p loose mean mg mb h₀' → KtsDicts (outer.filterMap (·.frame)) h₀' → R (.ok (.ret v)) s') :
    LeaveT fs A₀ base outer K p loose mean mg mb h₀ L m g R v s' := ⟨g', L', m', news', T, F', N', k⟩
noncomputable def ToldS (w : World) (f : Addr) {D : Type} (dep : D → Nat) (PreD : Led → D → Prop) (run : D → Option Tr) : Prop :=
  TSpec w 522 (D := D) (fun d => dep d + 60) (fun P vs d => vs = [.ref f] ∧ PreD P d) (fun P r d => match run d with | some t => DatIn P r t.dat | none => r = .none)
theorem told_spec (w : World) (f : Addr) {D : Type} {dep : D → Nat} {PreD : Led → D → Prop} {run : D → Option Tr}
    (hD : RSpec w f dep (fun P vs d => vs = [] ∧ PreD P d) (fun P r d => ∃ t, run d = some t ∧ NodeIn P r t.nt ∧ t.size ≤ 11) (fun d => run d = none))
    (hF : ∀ P d, PreD P d → ∃ oc od fd sl, (f, (⟨oc, od, .func fd, sl⟩ : Obj)) ∈ P) : ToldS w f dep PreD run := by
  unfold ToldS TSpec
  k_fill
  rintro mean mg mb dp un gd cn cs a ccd cl outer A₀ base h₀ L m M P s vs d Q E B F X N TT XB TB DD hk ⟨rfl, hpre⟩ hd hu hret
  dsimp only at hd hu
  refine el4 (hF _ _ hpre) ?_
  rintro foc fod ffd fsl hfm
  refine wpAny_call ?_
  k_dflt (refine' code_defT ?k1 ?k2 ?k3 ?k4 ?k5 XB TB DD ?kA ?kF ?kK ?k6 ?k7 ?k8 ?k9 ?kB ?_ ?c2 ?c3 ?c4 ?c5; (case kA => exact rfl); (case kF => exact rfl); (case kK => assumption); (case k1 => k_asm); (case k2 => k_asm); (case k3 => k_asm); (case k4 => k_asm); (case k5 => k_asm); (case k6 => k_is); (case k7 => k_is); (case k8 => ktr_room); (case k9 => exact BindsTo.of_eq rfl); (case c5 => decide); (case kB => exact locs rfl); (case c2 => exact rfl); (case c3 => exact rfl); (case c4 => exact rfl); k_whole; intro g1 L1 h1 FG1 F1 N1 B1 X1 T1 D1; (try dsimp only); (try k_fold))
  w_strict (
    walk_at "norm"
    (replace F1 := fr_lk [(Str.ofString "deed", .ref f)] F1)
    (dsimp only [lkm] at F1)
    (repeat' (first | ((fail_if_success (with_reducible (first | refine tW ?_ | refine tI ?_ | refine tF ?_ | refine tC ?_ | refine tX ?_ | show wpAny _ _ (call (Value.ref _) []) _ _ _ | show wpAny _ _ (callWith _ (Value.ref _) _ _ _) _ _ _ | refine tR 45 ?_ | refine tR 475 ?_ | refine tR 482 ?_ | refine tR 489 ?_ | refine tR 496 ?_ | refine tR 503 ?_ | refine tR 510 ?_))); first | ((with_reducible show WhileStep2 _ _ _ _ _ _ (Flow.ret _) _); dsimp only [WhileStep2]) | ((with_reducible show TurnP _ _ _ _ _ _ _ _ _ (Flow.ret _) _); dsimp only [TurnP]) | (k_unfold; (try dsimp only)) | (k_end; first | refine' next_q (by with_reducible assumption) ?_ | refine' ret_q (by with_reducible assumption) ?_ | refine' brk_q (by with_reducible assumption) ?_ | refine' cont_q (by with_reducible assumption) ?_) | (k_end; wrow_close) | walk1 | (dsimp only; walk1) | (leave1; walk_say "STEP leave1"; try dsimp only)) | fail "no step"))
    refine callWith_F0 (FnAt.of N1 (List.mem_append_right _ hfm)) ?_
    dsimp only [List.nil_append]
    refine' hD.use M P d (by k_asm) F1 (by k_asm) N1 (fun p hp => hp) (by k_asm) rfl ⟨rfl, hpre⟩ (by ktr_room) (by ktr_units) ?_ ?_
    · rintro r P3 h3 tk3 F3 N3 hs3 hf3 hDD1
      walk_at "norm"
      obtain ⟨t, hrun, hn, hsz⟩ := hDD1
      have hsz2 : t.nt.size ≤ 22 := by have := nt_size t; omega
      refine' node_method F3 (by k_asm) N3 (fun _ h => List.mem_append_right _ h) hn ?_
      (try dsimp only)
      refine' callWith_K0 ?X (keep_row w rfl _) ?_
      (case X => k_in)
      refine' (row_spec w t.nt).use M P3 () (by k_asm) F3 (by k_asm) N3 (fun p hp => hp) (by k_asm) rfl ⟨_, rfl, hn⟩ (by ktr_room) (by ktr_units) ?_
      rintro r2 P5 h5 tk5 F5 N5 hs5 hf5 hdat
      (repeat' (first | ((fail_if_success (with_reducible (first | refine tW ?_ | refine tI ?_ | refine tF ?_ | refine tC ?_ | refine tX ?_ | show wpAny _ _ (call (Value.ref _) []) _ _ _ | show wpAny _ _ (callWith _ (Value.ref _) _ _ _) _ _ _ | refine tR 45 ?_ | refine tR 475 ?_ | refine tR 482 ?_ | refine tR 489 ?_ | refine tR 496 ?_ | refine tR 503 ?_ | refine tR 510 ?_))); first | ((with_reducible show WhileStep2 _ _ _ _ _ _ (Flow.ret _) _); dsimp only [WhileStep2]) | ((with_reducible show TurnP _ _ _ _ _ _ _ _ _ (Flow.ret _) _); dsimp only [TurnP]) | (k_unfold; (try dsimp only)) | (k_end; first | refine' next_q (by with_reducible assumption) ?_ | refine' ret_q (by with_reducible assumption) ?_ | refine' brk_q (by with_reducible assumption) ?_ | refine' cont_q (by with_reducible assumption) ?_) | (k_end; wrow_close) | walk1 | (dsimp only; walk1) | (leave1; walk_say "STEP leave1"; try dsimp only)) | fail "no step"))
      refine leaveT_ F5 N5 KtsTurn.refl fun h₀' T' F' N' B' X' TT' D' => hret h₀' _ P5 _ _ T' B' X' TT' D' F' N' (fun p hp => hs5 p (hs3 p hp)) (Gr.refl.call hs3 hf3 |>.call hs5 hf5).fr ?_
      dsimp only
      rw [hrun]
      dsimp only
      rw [← nt_dat]
      exact hdat
    · intro e9 h9 G9 tk9 hF9 hR9 hU9 hz9
      refine' caught_own hR9 hF9 B1 hU9 XB TB D1 KtsTurn.refl ?ex ?q ?_
      (case ex => k_is)
      (case q => kernel_rfl)
      intro h10 g10 T10 F10 N10 K10 X10 P10 D10
      (repeat' (first | ((fail_if_success (with_reducible (first | refine tW ?_ | refine tI ?_ | refine tF ?_ | refine tC ?_ | refine tX ?_ | show wpAny _ _ (call (Value.ref _) []) _ _ _ | show wpAny _ _ (callWith _ (Value.ref _) _ _ _) _ _ _ | refine tR 45 ?_ | refine tR 475 ?_ | refine tR 482 ?_ | refine tR 489 ?_ | refine tR 496 ?_ | refine tR 503 ?_ | refine tR 510 ?_))); first | ((with_reducible show WhileStep2 _ _ _ _ _ _ (Flow.ret _) _); dsimp only [WhileStep2]) | ((with_reducible show TurnP _ _ _ _ _ _ _ _ _ (Flow.ret _) _); dsimp only [TurnP]) | (k_unfold; (try dsimp only)) | (k_end; first | refine' next_q (by with_reducible assumption) ?_ | refine' ret_q (by with_reducible assumption) ?_ | refine' brk_q (by with_reducible assumption) ?_ | refine' cont_q (by with_reducible assumption) ?_) | (k_end; wrow_close) | walk1 | (dsimp only; walk1) | (leave1; walk_say "STEP leave1"; try dsimp only)) | fail "no step"))
      refine leaveT_ F10 N10 T10 fun h₀' T' F' N' B' X' TT' D' => hret h₀' _ P _ _ T' B' X' TT' D' F' N' sub0 fr0 ?_
      dsimp only
      rw [hz9])

end
section
noncomputable def NewFixS (w : World) : Prop := Spec w 254 (D := Fx) (fun _ => 8) (fun _ vs f => ∃ t u, vs = [.str f.wy.str t, .int (f.lv : Int) u]) (fun P r f => FixIn P r f)
theorem new_fix_spec (w : World) : NewFixS w := by
  unfold NewFixS Spec
  k_fill
  rintro mean mg mb dp un gd cn cs a ccd cl outer A₀ base h₀ L m M P s vs f Q E B F X N TT hk hDD1 hd hu hret
  obtain ⟨t, u, rfl⟩ := hDD1
  dsimp only at hd hu
  w_strict (
    walk_at "norm"
    (k_here; refine' call_cls (by k_asm) (by k_asm) (by k_asm) (by k_is) (by k_is) (by k_is) ?_; k_whole; intro zx2 zd2 zh2 zF2 zN2 zl2 zm2; (try k_lt zl2); (try k_lt2 zm2); (try k_sweep); k_dflt (first | ktr_enter | (refine' code_def ?zek1q5 ?zek2q5 ?zek3q5 ?zek4q5 ?zek5q5 ?zekAq5 ?zekFq5 ?zekKq5 ?zek6q5 ?zek7q5 ?zek8q5 ?zek9q5 ?zekBq5 ?_ ?zec2q5 ?zec3q5 ?zec4q5 ?zec5q5; (case zekAq5 => exact rfl); (case zekFq5 => exact rfl); (case zekKq5 => assumption); (case zek1q5 => k_asm); (case zek2q5 => k_asm); (case zek3q5 => k_asm); (case zek4q5 => k_asm); (case zek5q5 => k_asm); (case zek6q5 => k_is); (case zek7q5 => k_is); (case zek8q5 => ktr_room); (case zek9q5 => exact binds_K (by k_in) rfl (by k_is) rfl rfl rfl); (case zec5q5 => decide); (case zekBq5 => exact locs rfl); (case zec2q5 => exact rfl); (case zec3q5 => exact rfl); (case zec4q5 => exact rfl); k_whole; intro zg1 zL1 zh1 zFG zF1 zN1 zB1 zX1 zT1; (try dsimp only); (try k_fold))))
    (repeat' (first | ((fail_if_success (with_reducible (first | refine tW ?_ | refine tI ?_ | refine tF ?_ | refine tC ?_ | refine tX ?_ | refine tR 45 ?_ | refine tR 475 ?_ | refine tR 482 ?_ | refine tR 489 ?_ | refine tR 496 ?_ | refine tR 503 ?_ | refine tR 510 ?_))); first | ((with_reducible show WhileStep2 _ _ _ _ _ _ (Flow.ret _) _); dsimp only [WhileStep2]) | ((with_reducible show TurnP _ _ _ _ _ _ _ _ _ (Flow.ret _) _); dsimp only [TurnP]) | (k_unfold; (try dsimp only)) | (k_end; first | refine' next_q (by with_reducible assumption) ?_ | refine' ret_q (by with_reducible assumption) ?_ | refine' brk_q (by with_reducible assumption) ?_ | refine' cont_q (by with_reducible assumption) ?_) | (k_end; wrow_close) | walk1 | (dsimp only; walk1) | (leave1; walk_say "STEP leave1"; try dsimp only)) | fail "no step"))
    exact hret _ _ _ _ (by assumption) (nsub (by assumption) mv2) (Gr.refl.inst (by assumption) (by assumption)).sub (Gr.refl.inst (by assumption) (by assumption)).fr ⟨_, _, _, _, _, _, _, _, _, rfl, .head _, .tail _ (.head _)⟩)
section
variable {prog : Program} {w : World} {A : Around} {E : Value → Shared → Prop} {s : Shared} {h₀ : Heap} {L : Addr} {m : Str → Option Value} {cn : Str} {cs : Scope} {a : Addr} {ccd : Value} {cl : List (Str × Addr)}
theorem store_cell {x : Str} {c : Addr} {o : Obj} {v : Value} {v₀ : Option Value} {nw : Led} {Q : Unit → Shared → Prop} (rest : Led) (F : Fr h₀ L s.heap m) (N : News h₀ L s.heap nw) (hs : ∀ p ∈ (c, o) :: rest, p ∈ nw) (off : ∀ p ∈ rest, p.1 ≠ c) (hc : cl.lookup x = some c) (hd : o.data = .cell v₀)
    (hk : cs.kind = .function) (hx : (envX cn cs L a ccd cl).kindOf x = some .cell)
    (h : ∀ h' o', Fr h₀ L h' m → News h₀ L h' ((c, o') :: rest) → o'.data = .cell (some v) → Q () { s with heap := h' }) : wpAny (model prog w) A (storeName (envX cn cs L a ccd cl) x v) Q E s :=
  storeX_C F (nsub N hs) hc (.head off) hd h hk hx
end

end
section
theorem new_app_spec (w : World) : NewAppS w := by
  unfold NewAppS Spec
  k_fill
  rintro mean mg mb dp un gd cn cs a ccd cl outer A₀ base h₀ L m M P s vs ⟨f, x, p⟩ Q E B F X N TT hk rfl hd hu hret
  dsimp only at hd hu
  dsimp only
  w_strict (
    walk_at "norm"
    (k_here; refine' call_cls (by k_asm) (by k_asm) (by k_asm) (by k_is) (by k_is) (by k_is) ?_; k_whole; intro zx2 zd2 zh2 zF2 zN2 zl2 zm2; (try k_lt zl2); (try k_lt2 zm2); (try k_sweep); k_dflt (first | ktr_enter | (refine' code_def ?zek1q7 ?zek2q7 ?zek3q7 ?zek4q7 ?zek5q7 ?zekAq7 ?zekFq7 ?zekKq7 ?zek6q7 ?zek7q7 ?zek8q7 ?zek9q7 ?zekBq7 ?_ ?zec2q7 ?zec3q7 ?zec4q7 ?zec5q7; (case zekAq7 => exact rfl); (case zekFq7 => exact rfl); (case zekKq7 => assumption); (case zek1q7 => k_asm); (case zek2q7 => k_asm); (case zek3q7 => k_asm); (case zek4q7 => k_asm); (case zek5q7 => k_asm); (case zek6q7 => k_is); (case zek7q7 => k_is); (case zek8q7 => ktr_room); (case zek9q7 => exact binds_K (by k_in) rfl (by k_is) rfl rfl rfl); (case zec5q7 => decide); (case zekBq7 => exact locs rfl); (case zec2q7 => exact rfl); (case zec3q7 => exact rfl); (case zec4q7 => exact rfl); k_whole; intro zg1 zL1 zh1 zFG zF1 zN1 zB1 zX1 zT1; (try dsimp only); (try k_fold))))
    (repeat' (first | ((fail_if_success (with_reducible (first | refine tW ?_ | refine tI ?_ | refine tF ?_ | refine tC ?_ | refine tX ?_ | refine tR 45 ?_ | refine tR 475 ?_ | refine tR 482 ?_ | refine tR 489 ?_ | refine tR 496 ?_ | refine tR 503 ?_ | refine tR 510 ?_))); first | ((with_reducible show WhileStep2 _ _ _ _ _ _ (Flow.ret _) _); dsimp only [WhileStep2]) | ((with_reducible show TurnP _ _ _ _ _ _ _ _ _ (Flow.ret _) _); dsimp only [TurnP]) | (k_unfold; (try dsimp only)) | (k_end; first | refine' next_q (by with_reducible assumption) ?_ | refine' ret_q (by with_reducible assumption) ?_ | refine' brk_q (by with_reducible assumption) ?_ | refine' cont_q (by with_reducible assumption) ?_) | (k_end; wrow_close) | walk1 | (dsimp only; walk1) | (leave1; walk_say "STEP leave1"; try dsimp only)) | fail "no step"))
    exact hret _ _ _ _ (by assumption) (nsub (by assumption) mv2) (Gr.refl.inst (by assumption) (by assumption)).sub (Gr.refl.inst (by assumption) (by assumption)).fr ⟨_, _, _, _, _, _, _, _, _, rfl, .head _, .tail _ (.head _)⟩)

end
section
theorem fixity_in_spec (w : World) : FixityInS w := by
  unfold FixityInS Spec
  k_fill
  rintro mean mg mb dp un gd cn cs a ccd cl outer A₀ base h₀ L m M P s vs ⟨T, x⟩ Q E B F X N TT hk hDD1 hd hu hret
  obtain ⟨kv, tk, rfl, ⟨dk, ok, kvs, rfl, hm, hne, hok, hkk⟩, hx⟩ := hDD1
  dsimp only at hx hd hu
  refine wpAny_call ?_
  k_dflt ktr_enter
  w_strict (
    walk_at "norm"
    (rename Fr _ _ _ _ => F1)
    (replace F1 := fr_lk [(Str.ofString "name", .str x.str tk), (Str.ofString "known", .ref dk)] F1)
    (dsimp only [lkm] at F1)
    (repeat' (first | ((fail_if_success (with_reducible (first | refine tW ?_ | refine tI ?_ | refine tF ?_ | refine tC ?_ | refine tX ?_ | refine tR 45 ?_ | refine tR 475 ?_ | refine tR 482 ?_ | refine tR 489 ?_ | refine tR 496 ?_ | refine tR 503 ?_ | refine tR 510 ?_))); first | ((with_reducible show WhileStep2 _ _ _ _ _ _ (Flow.ret _) _); dsimp only [WhileStep2]) | ((with_reducible show TurnP _ _ _ _ _ _ _ _ _ (Flow.ret _) _); dsimp only [TurnP]) | (k_unfold; (try dsimp only)) | (k_end; first | refine' next_q (by with_reducible assumption) ?_ | refine' ret_q (by with_reducible assumption) ?_ | refine' brk_q (by with_reducible assumption) ?_ | refine' cont_q (by with_reducible assumption) ?_) | (k_end; wrow_close) | walk1 | (dsimp only; walk1) | (leave1; walk_say "STEP leave1"; try dsimp only)) | fail "no step"))
    refine' kdg_method (knd := PySem.strKind _ _) (by k_asm) (List.mem_append_right _ hm) hok ?_
    (repeat' (first | ((fail_if_success (with_reducible (first | refine tW ?_ | refine tI ?_ | refine tF ?_ | refine tC ?_ | refine tX ?_ | refine tR 45 ?_ | refine tR 475 ?_ | refine tR 482 ?_ | refine tR 489 ?_ | refine tR 496 ?_ | refine tR 503 ?_ | refine tR 510 ?_))); first | ((with_reducible show WhileStep2 _ _ _ _ _ _ (Flow.ret _) _); dsimp only [WhileStep2]) | ((with_reducible show TurnP _ _ _ _ _ _ _ _ _ (Flow.ret _) _); dsimp only [TurnP]) | (k_unfold; (try dsimp only)) | (k_end; first | refine' next_q (by with_reducible assumption) ?_ | refine' ret_q (by with_reducible assumption) ?_ | refine' brk_q (by with_reducible assumption) ?_ | refine' cont_q (by with_reducible assumption) ?_) | (k_end; wrow_close) | walk1 | (dsimp only; walk1) | (leave1; walk_say "STEP leave1"; try dsimp only)) | fail "no step"))
    rcases hkk x hx with ⟨rfl, hv⟩ | ⟨u, hv, hf⟩
    · refine' kdg_get1 (knd := PySem.strKind _ _) (by k_asm) (List.mem_append_right _ hm) hok hne (strKind_is _ _ _ _) none hv ?_
      dsimp only [Option.getD]
      (repeat' (first | ((fail_if_success (with_reducible (first | refine tW ?_ | refine tI ?_ | refine tF ?_ | refine tC ?_ | refine tX ?_ | refine tR 45 ?_ | refine tR 475 ?_ | refine tR 482 ?_ | refine tR 489 ?_ | refine tR 496 ?_ | refine tR 503 ?_ | refine tR 510 ?_))); first | ((with_reducible show WhileStep2 _ _ _ _ _ _ (Flow.ret _) _); dsimp only [WhileStep2]) | ((with_reducible show TurnP _ _ _ _ _ _ _ _ _ (Flow.ret _) _); dsimp only [TurnP]) | (k_unfold; (try dsimp only)) | (k_end; first | refine' next_q (by with_reducible assumption) ?_ | refine' ret_q (by with_reducible assumption) ?_ | refine' brk_q (by with_reducible assumption) ?_ | refine' cont_q (by with_reducible assumption) ?_) | (k_end; wrow_close) | walk1 | (dsimp only; walk1) | (leave1; walk_say "STEP leave1"; try dsimp only)) | fail "no step"))
      exact hret _ _ _ _ (by assumption) (nsub (by assumption) mv2) (Gr.refl.inst (by assumption) (by assumption)).sub (Gr.refl.inst (by assumption) (by assumption)).fr ⟨_, _, _, _, _, _, _, _, _, rfl, .head _, .tail _ (.head _)⟩
    · refine' kdg_get1 (knd := PySem.strKind _ _) (by k_asm) (List.mem_append_right _ hm) hok hne (strKind_is _ _ _ _) (some u) hv ?_
      dsimp only [Option.getD]
      refine el9 (id hf) ?_
      rintro a1 d1 _ _ _ _ _ _ _ ⟨rfl, ha1, hd1⟩
      (repeat' (first | ((fail_if_success (with_reducible (first | refine tW ?_ | refine tI ?_ | refine tF ?_ | refine tC ?_ | refine tX ?_ | refine tR 45 ?_ | refine tR 475 ?_ | refine tR 482 ?_ | refine tR 489 ?_ | refine tR 496 ?_ | refine tR 503 ?_ | refine tR 510 ?_))); first | ((with_reducible show WhileStep2 _ _ _ _ _ _ (Flow.ret _) _); dsimp only [WhileStep2]) | ((with_reducible show TurnP _ _ _ _ _ _ _ _ _ (Flow.ret _) _); dsimp only [TurnP]) | (k_unfold; (try dsimp only)) | (k_end; first | refine' next_q (by with_reducible assumption) ?_ | refine' ret_q (by with_reducible assumption) ?_ | refine' brk_q (by with_reducible assumption) ?_ | refine' cont_q (by with_reducible assumption) ?_) | (k_end; wrow_close) | walk1 | (dsimp only; walk1) | (leave1; walk_say "STEP leave1"; try dsimp only)) | fail "no step"))
      exact hret _ _ _ _ (by assumption) (by assumption) sub0 fr0 hf)
theorem applied_spec (w : World) (hApp : NewAppS w) : AppliedS w := by
  unfold AppliedS Spec
  k_fill
  rintro mean mg mb dp un gd cn cs a ccd cl outer A₀ base h₀ L m M P s vs ⟨x, l, r⟩ Q E B F X N TT hk hDD1 hd hu hret
  refine el3 hDD1 ?_
  clear hDD1
  rintro ov u v ⟨rfl, ⟨ao, do_, _, _, _, _, _, _, _, _, rfl, hao, hdo⟩, hu1, hv1⟩
  dsimp only at hao hdo hu1 hv1 hd hu
  refine wpAny_call ?_
  k_dflt ktr_enter
  w_strict (
    walk_at "norm"
    (rename Fr _ _ _ _ => F1)
    (replace F1 := fr_lk [(Str.ofString "right", v), (Str.ofString "left", u), (Str.ofString "op", .ref ao)] F1)
    (dsimp only [lkm] at F1)
    (repeat' (first | ((fail_if_success (with_reducible (first | refine tW ?_ | refine tI ?_ | refine tF ?_ | refine tC ?_ | refine tX ?_ | refine tR 181 ?_ | refine tR 45 ?_ | refine tR 475 ?_ | refine tR 482 ?_ | refine tR 489 ?_ | refine tR 496 ?_ | refine tR 503 ?_ | refine tR 510 ?_))); first | ((with_reducible show WhileStep2 _ _ _ _ _ _ (Flow.ret _) _); dsimp only [WhileStep2]) | ((with_reducible show TurnP _ _ _ _ _ _ _ _ _ (Flow.ret _) _); dsimp only [TurnP]) | (k_unfold; (try dsimp only)) | (k_end; first | refine' next_q (by with_reducible assumption) ?_ | refine' ret_q (by with_reducible assumption) ?_ | refine' brk_q (by with_reducible assumption) ?_ | refine' cont_q (by with_reducible assumption) ?_) | (k_end; wrow_close) | walk1 | (dsimp only; walk1) | (leave1; walk_say "STEP leave1"; try dsimp only)) | fail "no step"))
    · have hc : x = .col := by assumption
      (rename Fr _ _ _ _ => F2)
      (rename News _ _ _ _ => N2)
      (rename (_ ∧ _ ∧ AllLt _ _) => l3)
      (rename (∀ p ∈ M ++ P, p.1 < _) => l1)
      (rename ((_ : Addr) < _) => l2)
      have g0 := (Gr.refl.inst l1 l2).allocN N2 l3 mv2
      refine' hApp.use M (_ :: _ :: _ :: P) (_, _, _) (by k_asm) F2 (by k_asm) N2 mv3 (by k_asm) rfl rfl (by ktr_room) (by ktr_units) ?_
      rintro r3 P3 h3 tk3 F3 N3 hs3 hf3 hDD1
      walk_at "norm"
      refine el9 hDD1 ?_
      clear hDD1
      rintro a3 d3 n3 _ _ _ _ _ _ ⟨rfl, ha3, hd3⟩
      have hao3 := hs3 _ (.tail _ (.tail _ (.tail _ hao)))
      have hdo3 := hs3 _ (.tail _ (.tail _ (.tail _ hdo)))
      clear F2 N2
      (repeat' (first | ((fail_if_success (with_reducible (first | refine tW ?_ | refine tI ?_ | refine tF ?_ | refine tC ?_ | refine tX ?_ | refine tR 181 ?_ | refine tR 45 ?_ | refine tR 475 ?_ | refine tR 482 ?_ | refine tR 489 ?_ | refine tR 496 ?_ | refine tR 503 ?_ | refine tR 510 ?_))); first | ((with_reducible show WhileStep2 _ _ _ _ _ _ (Flow.ret _) _); dsimp only [WhileStep2]) | ((with_reducible show TurnP _ _ _ _ _ _ _ _ _ (Flow.ret _) _); dsimp only [TurnP]) | (k_unfold; (try dsimp only)) | (k_end; first | refine' next_q (by with_reducible assumption) ?_ | refine' ret_q (by with_reducible assumption) ?_ | refine' brk_q (by with_reducible assumption) ?_ | refine' cont_q (by with_reducible assumption) ?_) | (k_end; wrow_close) | walk1 | (dsimp only; walk1) | (leave1; walk_say "STEP leave1"; try dsimp only)) | fail "no step"))
      (rename Fr _ _ _ _ => F4)
      (rename News _ _ _ _ => N4)
      refine' hApp.use M P3 (_, _, _) (by k_asm) F4 (by k_asm) N4 sub0 (by k_asm) rfl rfl (by ktr_room) (by ktr_units) ?_
      rintro r5 P5 h5 tk5 F5 N5 hs5 hf5 hDD1
      walk_at "norm"
      refine el9 hDD1 ?_
      clear hDD1
      rintro a5 d5 n5 _ _ _ _ _ _ ⟨rfl, ha5, hd5⟩
      (repeat' (first | ((fail_if_success (with_reducible (first | refine tW ?_ | refine tI ?_ | refine tF ?_ | refine tC ?_ | refine tX ?_ | refine tR 181 ?_ | refine tR 45 ?_ | refine tR 475 ?_ | refine tR 482 ?_ | refine tR 489 ?_ | refine tR 496 ?_ | refine tR 503 ?_ | refine tR 510 ?_))); first | ((with_reducible show WhileStep2 _ _ _ _ _ _ (Flow.ret _) _); dsimp only [WhileStep2]) | ((with_reducible show TurnP _ _ _ _ _ _ _ _ _ (Flow.ret _) _); dsimp only [TurnP]) | (k_unfold; (try dsimp only)) | (k_end; first | refine' next_q (by with_reducible assumption) ?_ | refine' ret_q (by with_reducible assumption) ?_ | refine' brk_q (by with_reducible assumption) ?_ | refine' cont_q (by with_reducible assumption) ?_) | (k_end; wrow_close) | walk1 | (dsimp only; walk1) | (leave1; walk_say "STEP leave1"; try dsimp only)) | fail "no step"))
      have g := (g0.call hs3 hf3).call hs5 hf5
      subst hc
      exact hret _ _ _ _ (by assumption) (by assumption) g.sub g.fr (.app ha5 hd5 (.app (hs5 _ ha3) (hs5 _ hd3) (.con (hs5 _ (hs3 _ (.tail _ (.head _)))) (hs5 _ (hs3 _ (.tail _ (.tail _ (.head _)))))) (hu1.mono fun p hp => g.sub p hp)) (hv1.mono fun p hp => g.sub p hp))
    · have hc : x ≠ .col := by assumption
      (rename Fr _ _ _ _ => F2)
      (rename News _ _ _ _ => N2)
      (rename (_ ∧ _ ∧ AllLt _ _) => l3)
      (rename (∀ p ∈ M ++ P, p.1 < _) => l1)
      (rename ((_ : Addr) < _) => l2)
      have g0 := (Gr.refl.inst l1 l2).allocN N2 l3 mv2
      refine' hApp.use M (_ :: _ :: _ :: P) (_, _, _) (by k_asm) F2 (by k_asm) N2 mv3 (by k_asm) rfl rfl (by ktr_room) (by ktr_units) ?_
      rintro r3 P3 h3 tk3 F3 N3 hs3 hf3 hDD1
      walk_at "norm"
      refine el9 hDD1 ?_
      clear hDD1
      rintro a3 d3 n3 _ _ _ _ _ _ ⟨rfl, ha3, hd3⟩
      have hao3 := hs3 _ (.tail _ (.tail _ (.tail _ hao)))
      have hdo3 := hs3 _ (.tail _ (.tail _ (.tail _ hdo)))
      clear F2 N2
      (repeat' (first | ((fail_if_success (with_reducible (first | refine tW ?_ | refine tI ?_ | refine tF ?_ | refine tC ?_ | refine tX ?_ | refine tR 181 ?_ | refine tR 45 ?_ | refine tR 475 ?_ | refine tR 482 ?_ | refine tR 489 ?_ | refine tR 496 ?_ | refine tR 503 ?_ | refine tR 510 ?_))); first | ((with_reducible show WhileStep2 _ _ _ _ _ _ (Flow.ret _) _); dsimp only [WhileStep2]) | ((with_reducible show TurnP _ _ _ _ _ _ _ _ _ (Flow.ret _) _); dsimp only [TurnP]) | (k_unfold; (try dsimp only)) | (k_end; first | refine' next_q (by with_reducible assumption) ?_ | refine' ret_q (by with_reducible assumption) ?_ | refine' brk_q (by with_reducible assumption) ?_ | refine' cont_q (by with_reducible assumption) ?_) | (k_end; wrow_close) | walk1 | (dsimp only; walk1) | (leave1; walk_say "STEP leave1"; try dsimp only)) | fail "no step"))
      (rename Fr _ _ _ _ => F4)
      (rename News _ _ _ _ => N4)
      refine' hApp.use M P3 (_, _, _) (by k_asm) F4 (by k_asm) N4 sub0 (by k_asm) rfl rfl (by ktr_room) (by ktr_units) ?_
      rintro r5 P5 h5 tk5 F5 N5 hs5 hf5 hDD1
      walk_at "norm"
      refine el9 hDD1 ?_
      clear hDD1
      rintro a5 d5 n5 _ _ _ _ _ _ ⟨rfl, ha5, hd5⟩
      (repeat' (first | ((fail_if_success (with_reducible (first | refine tW ?_ | refine tI ?_ | refine tF ?_ | refine tC ?_ | refine tX ?_ | refine tR 181 ?_ | refine tR 45 ?_ | refine tR 475 ?_ | refine tR 482 ?_ | refine tR 489 ?_ | refine tR 496 ?_ | refine tR 503 ?_ | refine tR 510 ?_))); first | ((with_reducible show WhileStep2 _ _ _ _ _ _ (Flow.ret _) _); dsimp only [WhileStep2]) | ((with_reducible show TurnP _ _ _ _ _ _ _ _ _ (Flow.ret _) _); dsimp only [TurnP]) | (k_unfold; (try dsimp only)) | (k_end; first | refine' next_q (by with_reducible assumption) ?_ | refine' ret_q (by with_reducible assumption) ?_ | refine' brk_q (by with_reducible assumption) ?_ | refine' cont_q (by with_reducible assumption) ?_) | (k_end; wrow_close) | walk1 | (dsimp only; walk1) | (leave1; walk_say "STEP leave1"; try dsimp only)) | fail "no step"))
      have g := (g0.call hs3 hf3).call hs5 hf5
      skip
      exact hret _ _ _ _ (by assumption) (by assumption) g.sub g.fr (.app ha5 hd5 (.app (hs5 _ ha3) (hs5 _ hd3) (.var hc (hs5 _ (hs3 _ (.tail _ (.head _)))) (hs5 _ (hs3 _ (.tail _ (.tail _ (.head _)))))) (hu1.mono fun p hp => g.sub p hp)) (hv1.mono fun p hp => g.sub p hp)))
theorem negated_spec (w : World) : NegatedS w := by
  unfold NegatedS Spec
  k_fill
  rintro mean mg mb dp un gd cn cs a ccd cl outer A₀ base h₀ L m M P s vs ⟨x, t⟩ Q E B F X N TT hk hDD1 hd hu hret
  obtain ⟨ov, u, rfl, ⟨ao, do_, _, _, _, _, _, _, _, _, rfl, hao, hdo⟩, hu1⟩ := hDD1
  dsimp only at hao hdo hu1 hd hu
  refine wpAny_call ?_
  k_dflt ktr_enter
  w_strict (
    walk_at "norm"
    (rename Fr _ _ _ _ => F1)
    (replace F1 := fr_lk [(Str.ofString "operand", u), (Str.ofString "op", .ref ao)] F1)
    (dsimp only [lkm] at F1)
    (repeat' (first | ((fail_if_success (with_reducible (first | refine tW ?_ | refine tI ?_ | refine tF ?_ | refine tC ?_ | refine tX ?_ | refine tR 181 ?_ | refine tR 45 ?_ | refine tR 475 ?_ | refine tR 482 ?_ | refine tR 489 ?_ | refine tR 496 ?_ | refine tR 503 ?_ | refine tR 510 ?_))); first | ((with_reducible show WhileStep2 _ _ _ _ _ _ (Flow.ret _) _); dsimp only [WhileStep2]) | ((with_reducible show TurnP _ _ _ _ _ _ _ _ _ (Flow.ret _) _); dsimp only [TurnP]) | (k_unfold; (try dsimp only)) | (k_end; first | refine' next_q (by with_reducible assumption) ?_ | refine' ret_q (by with_reducible assumption) ?_ | refine' brk_q (by with_reducible assumption) ?_ | refine' cont_q (by with_reducible assumption) ?_) | (k_end; wrow_close) | walk1 | (dsimp only; walk1) | (leave1; walk_say "STEP leave1"; try dsimp only)) | fail "no step"))
    (rename (_ ∧ _ ∧ AllLt _ _) => l3)
    (rename (∀ p ∈ M ++ P, p.1 < _) => l1)
    (rename ((_ : Addr) < _) => l2)
    (rename News h₀ _ _ _ => N2)
    have g := (Gr.refl.inst l1 l2).allocN N2 l3 mv2
    exact hret _ _ _ _ (by assumption) (nsub N2 mv3) g.sub g.fr (.neg (.tail _ (.head _)) (.tail _ (.tail _ (.head _))) (hu1.mono g.sub)))

end
section
-- ## the binder: what it holds and what its methods do to that
section
variable {prog : Program} {w : World} {A : Around} {E : Value → Shared → Prop} {s : Shared}
theorem ne_nil {a b : Addr} {xs : List Value} {Q : Value → Shared → Prop} (ha : s.heap.IsList a xs.toArray) (hb : s.heap.IsList b #[]) (hu : A.units + 64 < cLine) (h : Q (.bool (!xs.isEmpty)) s) : wpAny (model prog w) A (compareOp .NotEq (.ref a) (.ref b)) Q E s := by
  cases xs with
  | nil => exact ke_ne_ints (ns := []) (ms := []) (ys := []) ha hb .nil .nil hu (by simpa using h)
  | cons x xs =>
    obtain ⟨o, ho, hc, n, hd⟩ := ha
    obtain ⟨o2, ho2, hc2, n2, hd2⟩ := hb
    obtain ⟨c, dd, dt, sl⟩ := o
    obtain ⟨c2, dd2, dt2, sl2⟩ := o2
    dsimp only at hc hd hc2 hd2
    subst hc hd hc2 hd2
    exact richCompare_meets_room (op := .NotEq) ⟨_, ho, rfl⟩ ⟨_, ho2, rfl⟩ PySem.F.slot_list_ne PySem.F.entry_list_ne (PySem.F.args_list_ne_2 _ _) (PySem.SeqAt.list_ne_lengthsAt a b _ _ n n2 dd dd2 sl sl2 (by simp)) ⟨ho, ho2, by simpa [wants] using h⟩ (by omega)
theorem ne_snoc {a b : Addr} {xs : List Value} {v : Value} {Q : Value → Shared → Prop} (ha : s.heap.IsList a (xs ++ [v]).toArray) (hb : s.heap.IsList b #[]) (hu : A.units + 64 < cLine) (h : Q (.bool true) s) : wpAny (model prog w) A (compareOp .NotEq (.ref a) (.ref b)) Q E s :=
  ne_nil ha hb hu (by rw [show (xs ++ [v]).isEmpty = false by cases xs <;> rfl]; exact h)
end
inductive Wt
  | bin (x : Nm)
  | neg
  | opn (x : Nm)
noncomputable def Wt.nm : Wt → Nm
  | .bin x => x
  | .neg => .mi
  | .opn x => x
noncomputable def Wt.srt : Wt → Int
  | .bin _ => 0
  | .neg => 1
  | .opn _ => 2
noncomputable def Wt.fx (T : Tb) (x : Wt) : Fx := T.get x.nm
noncomputable def bindsV (f g : Fx) : Bool := decide (g.lv < f.lv) || (decide (f.lv = g.lv) && decide (f.wy = .l))
noncomputable def red1 : List Tr → Option (List Tr)
  | [] => none
  | t :: S => some (.neg t :: S)
noncomputable def red2 (x : Nm) : List Tr → Option (List Tr)
  | [] => none
  | r :: S => match S with
    | [] => none
    | l :: S => some (.bin x l r :: S)
noncomputable def redT : Wt → List Tr → Option (List Tr)
  | .bin x, S => red2 x S
  | .neg, S => red1 S
  | .opn _, _ => none
noncomputable def settleF (T : Tb) (f : Fx) : List Tr → List Wt → Option (List Tr × List Wt)
  | S, [] => some (S, [])
  | S, w :: W => if clashV (w.fx T) f then none else if bindsV (w.fx T) f then (redT w S).bind (fun S => settleF T f S W) else some (S, w :: W)
noncomputable def bins : List Wt → Nat
  | [] => 0
  | .bin _ :: W => bins W + 1
  | _ :: W => bins W
noncomputable def takeF (T : Tb) : List It → Bool → List Tr → List Wt → Option (List Tr × List Wt)
  | [], _, S, W => some (S, W)
  | .num i :: r, _, S, W => takeF T r false (.leaf i :: S) W
  | .sym x :: r, false, S, W => match settleF T (T.get x) S W with
    | some (S, W) => takeF T r true S (.bin x :: W)
    | none => none
  | .sym _ :: r, true, S, W => match W with
    | [] => takeF T r true S [.neg]
    | w :: W => if 6 ≤ (w.fx T).lv then none else takeF T r true S (.neg :: w :: W)
noncomputable def oneF : List Tr → Option Tr
  | [] => none
  | t :: S => match S with
    | [] => some t
    | _ :: _ => none
noncomputable def wholeF : List Tr → List Wt → Option Tr
  | S, [] => oneF S
  | S, w :: W => match w with
    | .opn _ => oneF S
    | .neg => (red1 S).bind fun S => wholeF S W
    | .bin x => (red2 x S).bind fun S => wholeF S W
-- in the ledger
noncomputable def WtIn (T : Tb) (P : Led) (v : Value) (w : Wt) : Prop := ∃ a d n h1 t1 h2 t2 h3 t3 u ov fv, v = .ref a ∧ (a, instObj 303 d) ∈ P ∧ (d, dictOf [en "op" h1 t1 ov, en "fixity" h2 t2 fv, en "sort" h3 t3 (.int w.srt u)] n) ∈ P ∧ OpIn P ov w.nm ∧ FixIn P fv (w.fx T)
theorem WtIn.mono {T : Tb} {P P' : Led} {v : Value} {w : Wt} (h : WtIn T P v w) (hs : ∀ p ∈ P, p ∈ P') : WtIn T P' v w := by
  obtain ⟨a, d, n, h1, t1, h2, t2, h3, t3, u, ov, fv, e, ha, hd, ho, hf⟩ := h
  exact ⟨a, d, n, h1, t1, h2, t2, h3, t3, u, ov, fv, e, hs _ ha, hs _ hd, ho.mono hs, hf.mono hs⟩
inductive StkIn (P : Led) : List Value → List Tr → Prop
  | nil : StkIn P [] []
  | snoc {vs : List Value} {S : List Tr} {v : Value} {t : Tr} : StkIn P vs S → NodeIn P v t.nt → StkIn P (vs ++ [v]) (t :: S)
inductive WtsIn (T : Tb) (P : Led) : List Value → List Wt → Prop
  | nil : WtsIn T P [] []
  | snoc {vs : List Value} {W : List Wt} {v : Value} {w : Wt} : WtsIn T P vs W → WtIn T P v w → WtsIn T P (vs ++ [v]) (w :: W)
theorem StkIn.mono {P P' : Led} (hs : ∀ p ∈ P, p ∈ P') {vs : List Value} {S : List Tr} (h : StkIn P vs S) : StkIn P' vs S := by
  induction h with
  | nil => exact .nil
  | snoc _ b ih => exact .snoc ih (b.mono hs)
theorem WtsIn.mono {T : Tb} {P P' : Led} (hs : ∀ p ∈ P, p ∈ P') {vs : List Value} {W : List Wt} (h : WtsIn T P vs W) : WtsIn T P' vs W := by
  induction h with
  | nil => exact .nil
  | snoc _ b ih => exact .snoc ih (b.mono hs)
theorem StkIn.length {P : Led} {vs : List Value} {S : List Tr} (h : StkIn P vs S) : vs.length = S.length := by
  induction h with
  | nil => rfl
  | snoc _ _ ih => simp [ih]
theorem WtsIn.length {T : Tb} {P : Led} {vs : List Value} {W : List Wt} (h : WtsIn T P vs W) : vs.length = W.length := by
  induction h with
  | nil => rfl
  | snoc _ _ ih => simp [ih]
noncomputable def BndIn (w : World) (P : Led) (v : Value) (T : Tb) (ol wl : Addr) : Prop := ∃ a d n h1 t1 h2 t2 h3 t3 h4 t4 h5 t5 kv, v = .ref a ∧ (a, instObj 394 d) ∈ P ∧ (d, dictOf [en "known" h1 t1 kv, en "make" h2 t2 (.ref 426), en "negate" h3 t3 (.ref 433), en "operands" h4 t4 (.ref ol), en "waiting" h5 t5 (.ref wl)] n) ∈ P ∧ KnIn w P kv T
theorem BndIn.mono {w : World} {P P' : Led} {v : Value} {T : Tb} {ol wl : Addr} (h : BndIn w P v T ol wl) (hs : ∀ p ∈ P, p ∈ P') : BndIn w P' v T ol wl := by
  obtain ⟨a, d, n, h1, t1, h2, t2, h3, t3, h4, t4, h5, t5, kv, e, ha, hd, hk⟩ := h
  exact ⟨a, d, n, h1, t1, h2, t2, h3, t3, h4, t4, h5, t5, kv, e, hs _ ha, hs _ hd, hk.mono hs⟩
-- what lies on the ledger while a binder is at work
abbrev BL (ol wl : Addr) (vs ws : List Value) (n1 n2 : Nat) (X : Led) : Led := (ol, listOf vs.toArray n1) :: (wl, listOf ws.toArray n2) :: X
structure BSt (w : World) (T : Tb) (M P : Led) (b : Value) (ol wl : Addr) (vs ws : List Value) (S : List Tr) (W : List Wt) : Prop where
  bnd : BndIn w P b T ol wl
  stk : StkIn P vs S
  wts : WtsIn T P ws W
  ne : ol ≠ wl
  oo : ∀ p ∈ M ++ P, p.1 ≠ ol
  ow : ∀ p ∈ M ++ P, p.1 ≠ wl
  rm : S.length + W.length ≤ 60
noncomputable def BSpec (w : World) (f : Addr) {D : Type} (dep : D → Nat) (Pre : Tb → Led → List Value → D → Prop) (run : Tb → D → List Tr → List Wt → Option (List Tr × List Wt)) (ok : List Tr → List Wt → D → Prop) : Prop :=
  ∀ (mean : ExcName → Option Value) (mg mb : Str → Option Value) (dp un : Nat) (gd : Option (List Code)) (cn : Str) (cs : Scope) (a : Addr) (ccd : Value) (cl : List (Str × Addr)) (outer : List Env) (A₀ : Around) (base h₀ : Heap) (L : Addr) (m : Str → Option Value) (M P : Led) (s : Shared) (args : List Value) (d : D)
    (T : Tb) (b : Value) (ol wl : Addr) (vs ws : List Value) (n1 n2 : Nat) (S : List Tr) (W : List Wt) (Q E : Value → Shared → Prop),
    Below A₀ base outer h₀ → Fr h₀ L s.heap m → (Mine.hd.heap_1 w.params).In h₀ → News h₀ L s.heap (BL ol wl vs ws n1 n2 (M ++ P)) → Top topProg LO2 mean mg mb h₀ → cs.kind = .function → BSt w T M P b ol wl vs ws S W → ok S W d → Pre T P args d → dp + dep d < recursionLimit → un + 8 * dep d < cLine →
    (∀ P' h' tk' vs' ws' k1 k2 S' W', Fr h₀ L h' m → News h₀ L h' (BL ol wl vs' ws' k1 k2 (M ++ P')) → Gr (BL ol wl vs ws n1 n2 (M ++ P)) P P' → BSt w T M P' b ol wl vs' ws' S' W' → run T d S W = some (S', W') → Q .none { s with heap := h', toks := tk' }) →
    (∀ e h' G tk', Fr h₀ L G m → RaisedSN base G (envX cn cs L a ccd cl :: outer) e (.ref 45) (M ++ P) h' → G.UpToSlots h' → run T d S W = none → E (.ref e) { s with heap := h', toks := tk' }) →
    wpAny (model PySem.Challenge.rw_np0230_01.row.prog w) (ktrTop dp un gd cn cs L a ccd cl outer) (call (.ref f) (b :: args)) Q E s
theorem RaisedSN.less {base G : Heap} {l : List Env} {e : Addr} {cls : Value} {news news' : Led} {h : Heap} (R : RaisedSN base G l e cls news h) (hs : ∀ p ∈ news', p ∈ news) : RaisedSN base G l e cls news' h := by
  obtain ⟨B, a0, hB, hBG, hl, hf⟩ := R
  exact ⟨B, a0, hB, hBG, fun q hq => hl q (hs q hq), hf⟩
noncomputable def stepR (S : List Tr) : List Wt → Option (List Tr × List Wt)
  | [] => none
  | w :: W => (redT w S).map fun S => (S, W)
noncomputable def ReduceS (w : World) : Prop := BSpec w 377 (D := Unit) (fun _ => 20) (fun _ _ args _ => ∃ pl, args = [pl]) (fun _ _ S W => stepR S W) (fun S W _ => (∃ x W', W = .opn x :: W') ∨ (∃ t S' W', S = t :: S' ∧ W = .neg :: W') ∨ ∃ r l S' x W', S = r :: l :: S' ∧ W = .bin x :: W')
theorem off_cons {q : Addr × Obj} {X : Led} {d : Addr} (h : q.1 ≠ d) (k : ∀ p ∈ X, p.1 ≠ d) : ∀ p ∈ q :: X, p.1 ≠ d := by
  intro p hp
  rcases List.mem_cons.mp hp with rfl | hp
  · exact h
  · exact k p hp
theorem lst60 {xs : List Value} (h : xs.length ≤ 60) : xs.toArray.toList.length ≤ sizeLine := by rw [sizeLine_eq]; show xs.length ≤ 16777216; omega
theorem fresh_BL {ol wl : Addr} {o1 o2 o1' o2' : Obj} {X P P2 : Led} (h : ∀ p ∈ P2, p ∈ P ∨ ∀ q ∈ (ol, o1) :: (wl, o2) :: X, q.1 ≠ p.1) : ∀ p ∈ P2, p ∈ P ∨ ∀ q ∈ (ol, o1') :: (wl, o2') :: X, q.1 ≠ p.1 := by
  intro p hp
  refine (h p hp).imp id fun k q hq => ?_
  rcases List.mem_cons.mp hq with rfl | hq
  · exact k (ol, o1) (.head _)
  · rcases List.mem_cons.mp hq with rfl | hq
    · exact k (wl, o2) (.tail _ (.head _))
    · exact k q (.tail _ (.tail _ hq))
theorem stepR_opn (S : List Tr) (x : Nm) (W : List Wt) : stepR S (.opn x :: W) = none := rfl
theorem stepR_some {S S' : List Tr} {w : Wt} {W W' : List Wt} (e : stepR S (w :: W) = some (S', W')) : redT w S = some S' ∧ W' = W := by
  obtain ⟨a, h, k⟩ := Option.map_eq_some_iff.mp e
  cases k
  exact ⟨h, rfl⟩
theorem red_len {w : Wt} {W : List Wt} {S S' : List Tr} (e : redT w S = some S') (h : S.length = bins (w :: W) + 1) : S'.length = bins W + 1 := by
  cases w with
  | opn x => cases e
  | neg => cases S with
    | nil => cases e
    | cons t S => cases e; exact h
  | bin x => cases S with
    | nil => cases e
    | cons r S => cases S with
      | nil => cases e
      | cons l S => cases e; exact Nat.succ.inj h
theorem BSpec.use {w : World} {f : Addr} {D : Type} {dep : D → Nat} {Pre : Tb → Led → List Value → D → Prop} {run : Tb → D → List Tr → List Wt → Option (List Tr × List Wt)} {ok : List Tr → List Wt → D → Prop} (Sp : BSpec w f dep Pre run ok) (M P : Led) (d : D)
    {mean : ExcName → Option Value} {mg mb : Str → Option Value} {dp un : Nat} {gd : Option (List Code)} {cn : Str} {cs : Scope} {a : Addr} {ccd : Value} {cl : List (Str × Addr)} {outer : List Env} {A₀ : Around} {base h₀ : Heap} {L : Addr} {m : Str → Option Value} {nw : Led} {s : Shared} {args : List Value}
    {T : Tb} {b : Value} {ol wl : Addr} {vs ws : List Value} {n1 n2 : Nat} {S : List Tr} {W : List Wt} {Q E : Value → Shared → Prop}
    (B : Below A₀ base outer h₀) (F : Fr h₀ L s.heap m) (X : (Mine.hd.heap_1 w.params).In h₀) (N : News h₀ L s.heap nw) (hs : ∀ p ∈ BL ol wl vs ws n1 n2 (M ++ P), p ∈ nw) (TT : Top topProg LO2 mean mg mb h₀) (hk : cs.kind = .function)
    (st : BSt w T M P b ol wl vs ws S W) (hok : ok S W d) (hp : Pre T P args d) (hd : dp + dep d < recursionLimit) (hu : un + 8 * dep d < cLine)
    (ret : ∀ P' h' tk' vs' ws' k1 k2 S' W', Fr h₀ L h' m → News h₀ L h' (BL ol wl vs' ws' k1 k2 (M ++ P')) → Gr (BL ol wl vs ws n1 n2 (M ++ P)) P P' → BSt w T M P' b ol wl vs' ws' S' W' → run T d S W = some (S', W') → Q .none { s with heap := h', toks := tk' })
    (rz : ∀ e h' G tk', Fr h₀ L G m → RaisedSN base G (envX cn cs L a ccd cl :: outer) e (.ref 45) (M ++ P) h' → G.UpToSlots h' → run T d S W = none → E (.ref e) { s with heap := h', toks := tk' }) :
    wpAny (model PySem.Challenge.rw_np0230_01.row.prog w) (ktrTop dp un gd cn cs L a ccd cl outer) (call (.ref f) (b :: args)) Q E s :=
  Sp mean mg mb dp un gd cn cs a ccd cl outer A₀ base h₀ L m M P s args d T b ol wl vs ws n1 n2 S W Q E B F X (nsub N hs) TT hk st hok hp hd hu ret rz
noncomputable def BindsS (w : World) : Prop := Spec w 321 (D := Fx × Fx) (fun _ => 5)
    (fun P vs d => ∃ u v, vs = [u, v] ∧ FixIn P u d.1 ∧ FixIn P v d.2) (fun _ r d => r = .bool (bindsV d.1 d.2))
theorem binds1 {f g : Fx} (h : (f.lv : Int) > g.lv) : bindsV f g = true := by
  have : g.lv < f.lv := by omega
  simp only [bindsV, this, decide_true, Bool.true_or]
theorem binds2 {f g : Fx} (h : ¬ (f.lv : Int) > g.lv) (k : (f.lv : Int) ≠ g.lv) : bindsV f g = false := by
  have h1 : ¬ g.lv < f.lv := by omega
  have h2 : ¬ f.lv = g.lv := by omega
  simp only [bindsV, decide_eq_false h1, decide_eq_false h2, Bool.false_or, Bool.false_and]
theorem binds3 {f g : Fx} (h : ¬ (f.lv : Int) > g.lv) (k : (f.lv : Int) = g.lv) : bindsV f g = (f.wy.str == Str.ofString "left") := by
  have h1 : ¬ g.lv < f.lv := by omega
  have h2 : f.lv = g.lv := by omega
  rw [show Str.ofString "left" = Wy.l.str from rfl, wy_beq]
  simp only [bindsV, h2, decide_true, Bool.true_and, Nat.lt_irrefl, decide_false, Bool.false_or]
noncomputable def SettleS (w : World) : Prop := BSpec w 370 (D := Fx) (fun _ => 40) (fun _ P args f => ∃ fv pl, args = [fv, pl] ∧ FixIn P fv f) (fun T f S W => settleF T f S W) (fun S W _ => S.length = bins W + 1)
abbrev SJ (w : World) (T : Tb) (f : Fx) (M P : Led) (b : Value) (ol wl : Addr) (vs0 ws0 : List Value) (n1 n2 : Nat) (S0 : List Tr) (W0 : List Wt) (mm : Bool → Str → Option Value) (n : Nat) (m : Str → Option Value) (nx : Led) : Prop :=
  ∃ S W vs ws k1 k2 P1 g, n = W.length + (if g then 1 else 0) ∧ m = mm g ∧ nx = BL ol wl vs ws k1 k2 (M ++ P1) ∧ Gr (BL ol wl vs0 ws0 n1 n2 (M ++ P)) P P1 ∧ BSt w T M P1 b ol wl vs ws S W ∧ S.length = bins W + 1 ∧ (g = true → W ≠ [] ∧ settleF T f S0 W0 = settleF T f S W) ∧ (g = false → settleF T f S0 W0 = some (S, W))
theorem isEmpty_snoc {α : Type} (l : List α) (x : α) : (l ++ [x]).isEmpty = false := by cases l <;> rfl
theorem WtsIn.isEmpty {T : Tb} {P : Led} {vs : List Value} {W : List Wt} (h : WtsIn T P vs W) : vs.isEmpty = W.isEmpty := by
  have := h.length
  cases vs <;> cases W <;> simp_all
theorem settle_nil {T : Tb} {f : Fx} {S : List Tr} : settleF T f S [] = some (S, []) := rfl
theorem settle_cons {T : Tb} {f : Fx} {S : List Tr} {w : Wt} {W : List Wt} : settleF T f S (w :: W) = if clashV (w.fx T) f then none else if bindsV (w.fx T) f then (redT w S).bind (fun S => settleF T f S W) else some (S, w :: W) := rfl
theorem settle_clash {T : Tb} {f : Fx} {S : List Tr} {w : Wt} {W : List Wt} (h : clashV (w.fx T) f = true) : settleF T f S (w :: W) = none := by
  rw [settle_cons, if_pos h]
theorem settle_stop {T : Tb} {f : Fx} {S : List Tr} {w : Wt} {W : List Wt} (h : clashV (w.fx T) f = false) (k : bindsV (w.fx T) f = false) : settleF T f S (w :: W) = some (S, w :: W) := by
  rw [settle_cons, h, k]; rfl
theorem settle_red {T : Tb} {f : Fx} {S : List Tr} {w : Wt} {W : List Wt} (h : clashV (w.fx T) f = false) (k : bindsV (w.fx T) f = true) : settleF T f S (w :: W) = (redT w S).bind (fun S => settleF T f S W) := by
  rw [settle_cons, h, k]; rfl
theorem settle_step {T : Tb} {f : Fx} {S S' : List Tr} {w : Wt} {W W' : List Wt} (h : clashV (w.fx T) f = false) (k : bindsV (w.fx T) f = true) (e : stepR S (w :: W) = some (S', W')) : settleF T f S (w :: W) = settleF T f S' W' := by
  obtain ⟨h1, rfl⟩ := stepR_some e
  rw [settle_red h k, h1]; rfl
theorem settle_none {T : Tb} {f : Fx} {S : List Tr} {w : Wt} {W : List Wt} (h : clashV (w.fx T) f = false) (k : bindsV (w.fx T) f = true) (e : stepR S (w :: W) = none) : settleF T f S (w :: W) = none := by
  rw [settle_red h k, Option.map_eq_none_iff.mp e]; rfl
theorem step_len {S S' : List Tr} {W W' : List Wt} (e : stepR S W = some (S', W')) (h : S.length = bins W + 1) : S'.length = bins W' + 1 ∧ W.length = W'.length + 1 := by
  cases W with
  | nil => cases e
  | cons w W =>
    obtain ⟨h1, rfl⟩ := stepR_some e
    exact ⟨red_len h1 h, rfl⟩
theorem red_ok {S : List Tr} {w : Wt} {W : List Wt} (h : S.length = bins (w :: W) + 1) : (∃ x W', w :: W = .opn x :: W') ∨ (∃ t S' W', S = t :: S' ∧ w :: W = .neg :: W') ∨ ∃ r l S' x W', S = r :: l :: S' ∧ w :: W = .bin x :: W' := by
  cases w with
  | opn x => exact .inl ⟨_, _, rfl⟩
  | neg => cases S with
    | nil => exact absurd h.symm (Nat.succ_ne_zero _)
    | cons t S => exact .inr (.inl ⟨_, _, _, rfl, rfl⟩)
  | bin x => cases S with
    | nil => exact absurd h.symm (Nat.succ_ne_zero _)
    | cons r S => cases S with
      | nil => exact absurd (Nat.succ.inj h).symm (Nat.succ_ne_zero _)
      | cons l S => exact .inr (.inr ⟨_, _, _, _, _, rfl, rfl⟩)
theorem Gr.thenBL {ol wl : Addr} {o1 o2 o1' o2' : Obj} {M P P1 P2 : Led} (g : Gr ((ol, o1) :: (wl, o2) :: (M ++ P)) P P1) (k : Gr ((ol, o1') :: (wl, o2') :: (M ++ P1)) P1 P2) : Gr ((ol, o1) :: (wl, o2) :: (M ++ P)) P P2 := by
  refine ⟨fun p hp => k.sub p (g.sub p hp), fun p hp => ?_⟩
  rcases fresh_BL (o1' := o1) (o2' := o2) k.fr p hp with h | h
  · exact g.fr p h
  · refine .inr fun q hq => h q ?_
    rcases List.mem_cons.mp hq with rfl | hq
    · exact .head _
    · rcases List.mem_cons.mp hq with rfl | hq
      · exact .tail _ (.head _)
      · refine .tail _ (.tail _ ?_)
        rcases List.mem_append.mp hq with hq | hq
        · exact List.mem_append_left _ hq
        · exact List.mem_append_right _ (g.sub q hq)
theorem BSt.grow {w : World} {T : Tb} {M P P1 : Led} {b : Value} {ol wl : Addr} {vs ws : List Value} {S : List Tr} {W : List Wt} {o1 o2 : Obj} (h : BSt w T M P b ol wl vs ws S W) (g : Gr ((ol, o1) :: (wl, o2) :: (M ++ P)) P P1) : BSt w T M P1 b ol wl vs ws S W := by
  refine ⟨h.bnd.mono g.sub, h.stk.mono g.sub, h.wts.mono g.sub, h.ne, ?_, ?_, h.rm⟩
  · exact offs_fresh (A := (ol, o1) :: (wl, o2) :: (M ++ P)) h.oo g.fr (.head _)
  · exact offs_fresh (A := (ol, o1) :: (wl, o2) :: (M ++ P)) h.ow g.fr (.tail _ (.head _))
noncomputable def WaitS (w : World) : Prop := BSpec w 342 (D := Wt) (fun _ => 14) (fun T P args wt => ∃ ov fv u, args = [ov, fv, .int wt.srt u] ∧ OpIn P ov wt.nm ∧ FixIn P fv (wt.fx T)) (fun _ wt S W => some (S, wt :: W)) (fun S W _ => S.length + W.length ≤ 50)
noncomputable def minusF (T : Tb) (S : List Tr) (W : List Wt) : Option (List Tr × List Wt) := match W with
  | [] => some (S, [.neg])
  | w :: W => if 6 ≤ (w.fx T).lv then none else some (S, .neg :: w :: W)
noncomputable def TakeMinusS (w : World) : Prop := BSpec w 356 (D := Unit) (fun _ => 22) (fun _ P args _ => ∃ ov, args = [ov] ∧ OpIn P ov .mi) (fun T _ S W => minusF T S W) (fun S W _ => S.length + W.length ≤ 50)
noncomputable def operF (T : Tb) (x : Nm) (S : List Tr) (W : List Wt) : Option (List Tr × List Wt) := (settleF T (T.get x) S W).map fun p => (p.1, .bin x :: p.2)
noncomputable def TakeOperS (w : World) : Prop := BSpec w 363 (D := Nm) (fun _ => 48) (fun _ P args x => ∃ ov, args = [ov] ∧ OpIn P ov x ∧ x ≠ .mi) (fun T x S W => operF T x S W) (fun S W _ => S.length = bins W + 1 ∧ S.length + W.length ≤ 50)
theorem bins_le {w : Wt} {W : List Wt} : bins W ≤ bins (w :: W) := by
  cases w with
  | bin x => exact Nat.le_succ _
  | neg => exact Nat.le_refl _
  | opn x => exact Nat.le_refl _
theorem settle_some {T : Tb} {f : Fx} {R : List Tr → List Wt → Prop} (hR : ∀ w W S S', redT w S = some S' → R S (w :: W) → R S' W) {S' : List Tr} {W' : List Wt} : ∀ {W : List Wt} {S : List Tr}, settleF T f S W = some (S', W') → R S W → R S' W' := by
  intro W
  induction W with
  | nil => intro S e h; cases e; exact h
  | cons w W ih =>
    intro S e h
    cases hc : clashV (w.fx T) f with
    | true => rw [settle_clash hc] at e; cases e
    | false =>
      cases hb : bindsV (w.fx T) f with
      | false => rw [settle_stop hc hb] at e; cases e; exact h
      | true =>
        rw [settle_red hc hb] at e
        obtain ⟨S2, h1, e⟩ := Option.bind_eq_some_iff.mp e
        exact ih e (hR w W S S2 h1 h)
theorem settle_len {T : Tb} {f : Fx} {W : List Wt} {S S' : List Tr} {W' : List Wt} (e : settleF T f S W = some (S', W')) (h : S.length = bins W + 1) : S'.length = bins W' + 1 ∧ S'.length + W'.length ≤ S.length + W.length := by
  refine (settle_some (R := fun A B => A.length = bins B + 1 ∧ A.length + B.length ≤ S.length + W.length) (fun w W1 A A' hr hA => ⟨red_len hr hA.1, Nat.le_trans ?_ hA.2⟩) e ⟨h, Nat.le_refl _⟩)
  rw [red_len hr hA.1, hA.1]
  exact Nat.add_le_add (Nat.succ_le_succ bins_le) (Nat.le_succ _)
theorem gr_two {A P : Led} {d x : Addr} {o o' : Obj} (h : AllLt d A) (l2 : d < x) : Gr A P ((x, o') :: (d, o) :: P) := by
  refine ⟨fun p hp => .tail _ (.tail _ hp), fun p hp => ?_⟩
  rcases List.mem_cons.mp hp with rfl | hp
  · exact .inr fun q hq => Nat.ne_of_lt (Nat.lt_trans (of_allLt h q hq) l2)
  · rcases List.mem_cons.mp hp with rfl | hp
    · exact .inr fun q hq => Nat.ne_of_lt (of_allLt h q hq)
    · exact .inl hp
theorem wait_fin {w : World} {T : Tb} {M P : Led} {b : Value} {ol wl x d : Addr} {vs ws : List Value} {S : List Tr} {W : List Wt} {wt : Wt} {g h : Heap} {L : Addr} {a1 a2 a3 : Int} {t1 t2 t3 u : Tok} {ov fv : Value} {n n1 n2 k2 : Nat} (hst : BSt w T M P b ol wl vs ws S W)
    (N : News g L h ((x, instObj 303 d) :: (d, dictOf [en "op" a1 t1 ov, en "fixity" a2 t2 fv, en "sort" a3 t3 (.int wt.srt u)] n) :: (ol, listOf vs.toArray n1) :: (wl, listOf (ws ++ [Value.ref x]).toArray k2) :: (M ++ P))) (l1 : ol < d ∧ wl < d ∧ AllLt d (M ++ P)) (l2 : d < x) (hov : OpIn P ov wt.nm) (hfv : FixIn P fv (wt.fx T)) (hok : S.length + W.length ≤ 50) :
    ∃ P', News g L h (BL ol wl vs (ws ++ [Value.ref x]) n1 k2 (M ++ P')) ∧ Gr (BL ol wl vs ws n1 n2 (M ++ P)) P P' ∧ BSt w T M P' b ol wl vs (ws ++ [Value.ref x]) S (wt :: W) := by
  refine ⟨_, ?_, gr_two (o := dictOf [en "op" a1 t1 ov, en "fixity" a2 t2 fv, en "sort" a3 t3 (.int wt.srt u)] n) (o' := instObj 303 d) (d := d) (x := x) l1 l2, ?_⟩
  · refine nsub N fun p hp => ?_
    simp only [List.mem_append, List.mem_cons] at hp ⊢
    rcases hp with h | h | h | h | h | h <;> simp only [h, true_or, or_true]
  · have hg := hst.grow (o1 := listOf vs.toArray n1) (o2 := listOf ws.toArray n2) (gr_two (o := dictOf [en "op" a1 t1 ov, en "fixity" a2 t2 fv, en "sort" a3 t3 (.int wt.srt u)] n) (o' := instObj 303 d) (d := d) (x := x) l1 l2)
    refine ⟨hg.bnd, hg.stk, hg.wts.snoc ⟨x, d, n, a1, t1, a2, t2, a3, t3, u, ov, fv, rfl, .head _, .tail _ (.head _), hov.mono fun p hp => .tail _ (.tail _ hp), hfv.mono fun p hp => .tail _ (.tail _ hp)⟩, hg.ne, hg.oo, hg.ow, ?_⟩
    simp only [List.length_cons]; omega
theorem fix_put {w : World} {T : Tb} {M P X : Led} {b : Value} {ol wl x d : Addr} {vs ws : List Value} {S : List Tr} {W : List Wt} {f : Fx} {g h : Heap} {L : Addr} {a1 a2 : Int} {t1 t2 t u : Tok} {n n1 n2 : Nat} {wy : Str} {lv : Int} (hst : BSt w T M P b ol wl vs ws S W)
    (_N : News g L h X) (_hm : (d, dictOf [en "way" a1 t1 (.str wy t), en "level" a2 t2 (.int lv u)] n) ∈ X) (l1 : ol < d ∧ wl < d ∧ AllLt d (M ++ P)) (l2 : d < x) (hw : f.wy.str = wy) (hl : (f.lv : Int) = lv) :
    BSt w T M ((x, instObj 254 d) :: (d, dictOf [en "way" a1 t1 (.str wy t), en "level" a2 t2 (.int lv u)] n) :: P) b ol wl vs ws S W ∧
    Gr (BL ol wl vs ws n1 n2 (M ++ P)) P ((x, instObj 254 d) :: (d, dictOf [en "way" a1 t1 (.str wy t), en "level" a2 t2 (.int lv u)] n) :: P) ∧
    FixIn ((x, instObj 254 d) :: (d, dictOf [en "way" a1 t1 (.str wy t), en "level" a2 t2 (.int lv u)] n) :: P) (.ref x) f := by
  subst hw hl
  exact ⟨hst.grow (o1 := listOf vs.toArray n1) (o2 := listOf ws.toArray n2) (gr_two l1 l2), gr_two l1 l2, x, d, n, a1, t1, a2, t2, t, u, rfl, .head _, .tail _ (.head _)⟩
theorem bl_sub {y x d o1 o2 : Addr × Obj} {M P : Led} : ∀ p ∈ o1 :: o2 :: (M ++ (x :: d :: P)), p ∈ y :: x :: d :: o1 :: o2 :: (M ++ P) := by
  intro p hp
  simp only [List.mem_append, List.mem_cons] at hp ⊢
  rcases hp with h | h | h | h | h | h <;> simp only [h, true_or, or_true]
theorem minus_none {T : Tb} {S : List Tr} {w : Wt} {W : List Wt} (h : (6 : Int) ≤ (w.fx T).lv) : minusF T S (w :: W) = none := by
  have : 6 ≤ (w.fx T).lv := by omega
  simp only [minusF, if_pos this]
theorem minus_some {T : Tb} {S : List Tr} {w : Wt} {W : List Wt} (h : ¬ (6 : Int) ≤ (w.fx T).lv) : minusF T S (w :: W) = some (S, .neg :: w :: W) := by
  have : ¬ 6 ≤ (w.fx T).lv := by omega
  simp only [minusF, if_neg this]
noncomputable def OpenS (w : World) : Prop := BSpec w 349 (D := Nm) (fun _ => 22) (fun _ P args x => ∃ ov, args = [ov] ∧ OpIn P ov x ∧ x ≠ .mi) (fun _ x S W => some (S, .opn x :: W)) (fun S W _ => S.length + W.length ≤ 50)
theorem oper_some {T : Tb} {x : Nm} {S S' : List Tr} {W W' : List Wt} (h : settleF T (T.get x) S W = some (S', W')) : operF T x S W = some (S', .bin x :: W') := by simp only [operF, h, Option.map]
theorem oper_none {T : Tb} {x : Nm} {S : List Tr} {W : List Wt} (h : settleF T (T.get x) S W = none) : operF T x S W = none := by simp only [operF, h, Option.map]
theorem whole_step {S S' : List Tr} {w : Wt} {W W' : List Wt} (e : stepR S (w :: W) = some (S', W')) : wholeF S (w :: W) = wholeF S' W' := by
  obtain ⟨h1, rfl⟩ := stepR_some e
  cases w with
  | opn x => cases h1
  | neg => exact congrArg (fun o => Option.bind o fun S => wholeF S W') h1
  | bin x => exact congrArg (fun o => Option.bind o fun S => wholeF S W') h1
theorem one_some {S : List Tr} {t : Tr} (h : oneF S = some t) : S = [t] := by
  cases S with
  | nil => cases h
  | cons u S => cases S with
    | nil => cases h; rfl
    | cons v S => cases h
theorem whole_nil {S : List Tr} {t : Tr} (h : wholeF S [] = some t) : S = [t] := one_some h
theorem whole_opn {S : List Tr} {x : Nm} {W : List Wt} {t : Tr} (h : wholeF S (.opn x :: W) = some t) : S = [t] := one_some h
noncomputable def WholeS (w : World) : Prop :=
  ∀ (mean : ExcName → Option Value) (mg mb : Str → Option Value) (dp un : Nat) (gd : Option (List Code)) (cn : Str) (cs : Scope) (a : Addr) (ccd : Value) (cl : List (Str × Addr)) (outer : List Env) (A₀ : Around) (base h₀ : Heap) (L : Addr) (m : Str → Option Value) (M P : Led) (s : Shared)
    (T : Tb) (b : Value) (ol wl : Addr) (vs ws : List Value) (n1 n2 : Nat) (S : List Tr) (W : List Wt) (t : Tr) (Q E : Value → Shared → Prop),
    Below A₀ base outer h₀ → Fr h₀ L s.heap m → (Mine.hd.heap_1 w.params).In h₀ → News h₀ L s.heap (BL ol wl vs ws n1 n2 (M ++ P)) → Top topProg LO2 mean mg mb h₀ → cs.kind = .function → BSt w T M P b ol wl vs ws S W → wholeF S W = some t → S.length = bins W + 1 → dp + 30 < recursionLimit → un + 8 * 30 < cLine →
    (∀ r P' h' tk', Fr h₀ L h' m → News h₀ L h' (M ++ P') → Gr (BL ol wl vs ws n1 n2 (M ++ P)) P P' → NodeIn P' r t.nt → Q r { s with heap := h', toks := tk' }) →
    wpAny (model PySem.Challenge.rw_np0230_01.row.prog w) (ktrTop dp un gd cn cs L a ccd cl outer) (call (.ref 391) [b]) Q E s
abbrev WJ (w : World) (T : Tb) (M P : Led) (b : Value) (ol wl : Addr) (vs0 ws0 : List Value) (n1 n2 : Nat) (t : Tr) (m0 : Str → Option Value) (n : Nat) (m : Str → Option Value) (nx : Led) : Prop :=
  ∃ S W vs ws k1 k2 P1, n = W.length ∧ m = m0 ∧ nx = BL ol wl vs ws k1 k2 (M ++ P1) ∧ Gr (BL ol wl vs0 ws0 n1 n2 (M ++ P)) P P1 ∧ BSt w T M P1 b ol wl vs ws S W ∧ S.length = bins W + 1 ∧ wholeF S W = some t
theorem red_is {S : List Tr} {w : Wt} {W : List Wt} (h : S.length = bins (w :: W) + 1) (hn : ∀ x, w ≠ .opn x) : ∃ S', redT w S = some S' := by
  cases w with
  | opn x => exact absurd rfl (hn x)
  | neg => cases S with
    | nil => exact absurd h.symm (Nat.succ_ne_zero _)
    | cons t S => exact ⟨_, rfl⟩
  | bin x => cases S with
    | nil => exact absurd h.symm (Nat.succ_ne_zero _)
    | cons r S => cases S with
      | nil => exact absurd (Nat.succ.inj h).symm (Nat.succ_ne_zero _)
      | cons l S => exact ⟨_, rfl⟩
theorem red_some {S : List Tr} {w : Wt} {W : List Wt} (h : S.length = bins (w :: W) + 1) (hn : ∀ x, w ≠ .opn x) : stepR S (w :: W) ≠ none := by
  obtain ⟨S', h1⟩ := red_is h hn
  intro e
  rw [Option.map_eq_none_iff.mp e] at h1
  cases h1
noncomputable def ItmIn (P : Led) (v : Value) : It → Prop
  | .num i => NodeIn P v (.lit i)
  | .sym x => OpIn P v x
theorem ItmIn.mono {P P' : Led} (hs : ∀ p ∈ P, p ∈ P') {v : Value} : ∀ {i : It}, ItmIn P v i → ItmIn P' v i
  | .num _, h => NodeIn.mono hs h
  | .sym _, h => OpIn.mono h hs
inductive ItmsAre (P : Led) : List Value → List It → Prop
  | nil : ItmsAre P [] []
  | cons {v : Value} {i : It} {vs : List Value} {is : List It} : ItmIn P v i → ItmsAre P vs is → ItmsAre P (v :: vs) (i :: is)
theorem ItmsAre.mono {P P' : Led} (hs : ∀ p ∈ P, p ∈ P') {vs : List Value} {is : List It} (h : ItmsAre P vs is) : ItmsAre P' vs is := by
  induction h with
  | nil => exact .nil
  | cons a _ ih => exact .cons (a.mono hs) ih
theorem ItmsAre.length {P : Led} {vs : List Value} {is : List It} (h : ItmsAre P vs is) : vs.length = is.length := by
  induction h with
  | nil => rfl
  | cons _ _ ih => simp [ih]
theorem ItmsAre.at {P : Led} {vs : List Value} {is : List It} (h : ItmsAre P vs is) : ∀ {k : Nat} {v : Value}, vs[k]? = some v → ∃ i, is[k]? = some i ∧ ItmIn P v i := by
  induction h with
  | nil => intro k v e; simp at e
  | cons a _ ih =>
    intro k v e
    cases k with
    | zero => simp at e; exact ⟨_, rfl, e ▸ a⟩
    | succ k => simpa using ih (by simpa using e)
noncomputable def vldD (d : Bool) (l : List It) : Bool := vldA l d false
theorem vld_num {i : Nat} {l : List It} (h : vld (.num i :: l) = true) : vldD false l = true := h
theorem minus_len {T : Tb} {S S' : List Tr} {W W' : List Wt} (h : minusF T S W = some (S', W')) : S' = S ∧ W' = .neg :: W := by
  cases W with
  | nil => simp only [minusF] at h; cases h; exact ⟨rfl, rfl⟩
  | cons w W =>
    simp only [minusF] at h
    split at h
    · cases h
    · cases h; exact ⟨rfl, rfl⟩
theorem oper_len {T : Tb} {x : Nm} {S S' : List Tr} {W W' : List Wt} (h : operF T x S W = some (S', W')) (k : S.length = bins W + 1) : S'.length = bins W' ∧ S'.length + W'.length ≤ S.length + W.length + 1 := by
  unfold operF at h
  cases e : settleF T (T.get x) S W with
  | none => rw [e] at h; cases h
  | some p =>
    rw [e] at h
    cases h
    obtain ⟨a, b⟩ := settle_len (S' := p.1) (W' := p.2) e k
    exact ⟨a, Nat.succ_le_succ b⟩
theorem take_num {T : Tb} {i : Nat} {r : List It} {d : Bool} {S : List Tr} {W : List Wt} : takeF T (.num i :: r) d S W = takeF T r false (.leaf i :: S) W := by cases d <;> rfl
theorem take_op {T : Tb} {x : Nm} {r : List It} {S S' : List Tr} {W W' : List Wt} (h : operF T x S W = some (S', W')) : takeF T (.sym x :: r) false S W = takeF T r true S' W' := by
  unfold operF at h
  cases e : settleF T (T.get x) S W with
  | none => rw [e] at h; cases h
  | some p =>
    rw [e] at h
    simp only [Option.map] at h
    cases h
    conv => lhs; unfold takeF
    simp only [e]
theorem take_op0 {T : Tb} {x : Nm} {r : List It} {S : List Tr} {W : List Wt} (h : operF T x S W = none) : takeF T (.sym x :: r) false S W = none := by
  unfold operF at h
  unfold takeF
  cases e : settleF T (T.get x) S W with
  | none => rfl
  | some p => rw [e] at h; cases h
theorem take_mi {T : Tb} {x : Nm} {r : List It} {S S' : List Tr} {W W' : List Wt} (h : minusF T S W = some (S', W')) : takeF T (.sym x :: r) true S W = takeF T r true S' W' := by
  cases W with
  | nil => simp only [minusF] at h; cases h; rfl
  | cons w W =>
    simp only [minusF] at h
    split at h
    · cases h
    · rename_i hn
      cases h
      show (if 6 ≤ (w.fx T).lv then none else _) = _
      rw [if_neg hn]
theorem take_mi0 {T : Tb} {x : Nm} {r : List It} {S : List Tr} {W : List Wt} (h : minusF T S W = none) : takeF T (.sym x :: r) true S W = none := by
  cases W with
  | nil => cases h
  | cons w W =>
    simp only [minusF] at h
    split at h
    · rename_i hn
      show (if 6 ≤ (w.fx T).lv then none else _) = _
      rw [if_pos hn]
    · cases h
theorem take_len {T : Tb} : ∀ {row : List It} {d m : Bool} {S S' : List Tr} {W W' : List Wt}, vldA row d m = true → takeF T row d S W = some (S', W') → S.length = bins W + (if d then 0 else 1) → S'.length = bins W' + 1 ∧ S'.length + W'.length ≤ S.length + W.length + row.length := by
  intro row
  induction row with
  | nil =>
    intro d m S S' W W' hv h k
    cases d with
    | true => cases hv
    | false => cases h; exact ⟨k, Nat.le_refl _⟩
  | cons i r ih =>
    intro d m S S' W W' hv h k
    have step : ∀ {d m : Bool} {S2 : List Tr} {W2 : List Wt}, vldA r d m = true → takeF T r d S2 W2 = some (S', W') → S2.length = bins W2 + (if d then 0 else 1) → S2.length + W2.length ≤ S.length + W.length + 1 → S'.length = bins W' + 1 ∧ S'.length + W'.length ≤ S.length + W.length + (r.length + 1) := by
      intro d m S2 W2 a b c e
      obtain ⟨x, y⟩ := ih a b c
      refine ⟨x, Nat.le_trans y ?_⟩
      rw [Nat.add_comm r.length, ← Nat.add_assoc]
      exact Nat.add_le_add_right e _
    cases i with
    | num j =>
      rw [take_num] at h
      cases d with
      | false => cases hv
      | true => exact step (d := false) (m := false) hv h (congrArg Nat.succ k) (Nat.le_of_eq (Nat.succ_add ..))
    | sym x =>
      cases d with
      | true =>
        obtain ⟨-, hv⟩ := Bool.and_eq_true_iff.mp hv
        obtain ⟨-, hr⟩ := Bool.and_eq_true_iff.mp hv
        cases e : minusF T S W with
        | none => rw [take_mi0 e] at h; cases h
        | some p =>
          obtain ⟨S2, W2⟩ := p
          rw [take_mi e] at h
          obtain ⟨rfl, rfl⟩ := minus_len e
          exact step (d := true) hr h k (Nat.le_refl _)
      | false =>
        obtain ⟨-, hr⟩ := Bool.and_eq_true_iff.mp hv
        cases e : operF T x S W with
        | none => rw [take_op0 e] at h; cases h
        | some p =>
          obtain ⟨S2, W2⟩ := p
          rw [take_op e] at h
          obtain ⟨a, b⟩ := oper_len e k
          exact step (d := true) hr h a b
noncomputable def TakeS (w : World) : Prop := BSpec w 384 (D := List It) (fun _ => 60) (fun _ P args row => ∃ la ivs n, args = [.ref la] ∧ (la, listOf ivs.toArray n) ∈ P ∧ ItmsAre P ivs row ∧ vld row = true ∧ row.length ≤ 11) (fun T row S W => takeF T row true S W) (fun S W _ => S.length = bins W ∧ S.length + W.length ≤ 2)
theorem due_frame {v : Value} {m₀ u : Str → Option Value} {q : Bool} (x : Str) (h : u (Str.ofString "is_due") = some (.bool q)) :
    (fun y => if y = x then some v else if [Str.ofString "is_due"].contains y then u y else m₀ y) = fun y => if y = x then some v else if y = Str.ofString "is_due" then some (.bool q) else m₀ y := by
  funext y
  by_cases h1 : y = x
  · simp [h1]
  · by_cases h2 : y = Str.ofString "is_due"
    · subst h2; simp [h1, h]
    · simp [h1, h2]
theorem due_frame2 {r m₀ u : Str → Option Value} {q : Bool} (x : Str) (h : u (Str.ofString "is_due") = some (.bool q)) :
    (fun y => if y = x then r y else if [Str.ofString "is_due"].contains y then u y else m₀ y) = fun y => if y = x then r y else if y = Str.ofString "is_due" then some (.bool q) else m₀ y := by
  funext y
  by_cases h1 : y = x
  · simp [h1]
  · by_cases h2 : y = Str.ofString "is_due"
    · subst h2; simp [h1, h]
    · simp [h1, h2]
theorem BSt.enter {w : World} {T : Tb} {own M Px : Led} {b : Value} {ol wl : Addr} {o1 o2 : Obj} {vs ws : List Value} {S : List Tr} {W : List Wt} (h : BSt w T M Px b ol wl vs ws S W) (ho : OwnOff own (((ol, o1) :: (wl, o2) :: M ++ Px).map (·.1))) : BSt w T (own ++ M) Px b ol wl vs ws S W := by
  refine ⟨h.bnd, h.stk, h.wts, h.ne, ?_, ?_, h.rm⟩
  · intro p hp
    rw [List.append_assoc] at hp
    exact (List.mem_append.mp hp).elim (fun hp => ho p hp ol (by simp)) (h.oo p)
  · intro p hp
    rw [List.append_assoc] at hp
    exact (List.mem_append.mp hp).elim (fun hp => ho p hp wl (by simp)) (h.ow p)
theorem BSt.exit {w : World} {T : Tb} {own M P Px Px' : Led} {b : Value} {ol wl : Addr} {o1 o2 o1' o2' o10 o20 o11 o21 : Obj} {vs ws : List Value} {S : List Tr} {W : List Wt} (h : BSt w T (own ++ M) Px' b ol wl vs ws S W) (ho : OwnOff own (((ol, o1) :: (wl, o2) :: M ++ Px).map (·.1)))
    (hg : Gr ((ol, o10) :: (wl, o20) :: (M ++ P)) P Px) (k : Gr ((ol, o11) :: (wl, o21) :: ((own ++ M) ++ Px)) Px Px') :
    BSt w T M Px' b ol wl vs ws S W ∧ Gr ((ol, o10) :: (wl, o20) :: (M ++ P)) P Px' ∧ OwnOff own (((ol, o1') :: (wl, o2') :: M ++ Px').map (·.1)) := by
  refine ⟨⟨h.bnd, h.stk, h.wts, h.ne, fun p hp => h.oo p (by rw [List.append_assoc]; exact List.mem_append_right _ hp), fun p hp => h.ow p (by rw [List.append_assoc]; exact List.mem_append_right _ hp), h.rm⟩, hg.thenBL (o1' := o11) (o2' := o21) (k.mono ?_), ?_⟩
  · intro p hp
    rcases List.mem_cons.mp hp with rfl | hp
    · exact .head _
    · rcases List.mem_cons.mp hp with rfl | hp
      · exact .tail _ (.head _)
      · exact .tail _ (.tail _ (by rw [List.append_assoc]; exact List.mem_append_right _ hp))
  · exact ownoff_fresh (A := (ol, o11) :: (wl, o21) :: ((own ++ M) ++ Px)) (Mx := (ol, o1) :: (wl, o2) :: M) (Mx' := (ol, o1') :: (wl, o2') :: M) ho rfl k.fr fun p hp => .tail _ (.tail _ (List.mem_append_left _ (List.mem_append_left _ hp)))
theorem bl_own {own M Px : Led} {o1 o2 : Addr × Obj} : ∀ p ∈ o1 :: o2 :: ((own ++ M) ++ Px), p ∈ (own ++ (o1 :: o2 :: M)) ++ Px := by
  intro p hp
  simp only [List.mem_append, List.mem_cons] at hp ⊢
  rcases hp with h | h | (h | h) | h <;> simp only [h, true_or, or_true]
theorem bl_own2 {own M Px : Led} {o1 o2 : Addr × Obj} : ∀ p ∈ (own ++ (o1 :: o2 :: M)) ++ Px, p ∈ o1 :: o2 :: ((own ++ M) ++ Px) := by
  intro p hp
  simp only [List.mem_append, List.mem_cons] at hp ⊢
  rcases hp with (h | h | h | h) | h <;> simp only [h, true_or, or_true]
noncomputable def okO : List Wt → Bool
  | [] => true
  | w :: W => match w with
    | .opn _ => W.isEmpty
    | .bin _ => okO W
    | .neg => okO W
theorem okO_tail {w : Wt} {W : List Wt} (h : okO (w :: W) = true) : okO W = true := by
  cases w with
  | opn x => rw [List.isEmpty_iff.mp h]; rfl
  | bin x => exact h
  | neg => exact h
theorem whole_some : ∀ {W : List Wt} {S : List Tr}, okO W = true → S.length = bins W + 1 → ∃ t, wholeF S W = some t := by
  have one : ∀ {S : List Tr}, S.length = 0 + 1 → ∃ t, oneF S = some t := by
    intro S k
    cases S with
    | nil => cases k
    | cons t S => cases S with
      | nil => exact ⟨t, rfl⟩
      | cons u S => cases k
  intro W
  induction W with
  | nil => intro S _ k; exact one k
  | cons w W ih =>
    intro S h k
    cases w with
    | opn x => cases List.isEmpty_iff.mp h; exact one k
    | neg =>
      obtain ⟨S', e⟩ := red_is k (by intro x h; cases h)
      obtain ⟨u, hu⟩ := ih h (red_len e k)
      exact ⟨u, (congrArg (fun o => Option.bind o fun S => wholeF S W) e).trans hu⟩
    | bin x =>
      obtain ⟨S', e⟩ := red_is k (by intro x h; cases h)
      obtain ⟨u, hu⟩ := ih h (red_len e k)
      exact ⟨u, (congrArg (fun o => Option.bind o fun S => wholeF S W) e).trans hu⟩
theorem settle_ok {T : Tb} {f : Fx} {W : List Wt} {S S' : List Tr} {W' : List Wt} (e : settleF T f S W = some (S', W')) (h : okO W = true) : okO W' = true :=
  settle_some (R := fun _ B => okO B = true) (fun _ _ _ _ _ k => okO_tail k) e h
theorem take_ok {T : Tb} : ∀ {row : List It} {d : Bool} {S S' : List Tr} {W W' : List Wt}, takeF T row d S W = some (S', W') → okO W = true → okO W' = true
  | [], _, _, _, _, _, h, k => by simp only [takeF] at h; cases h; exact k
  | .num i :: r, d, S, S', W, W', h, k => by rw [take_num] at h; exact take_ok h k
  | .sym x :: r, true, S, S', W, W', h, k => by
    cases e : minusF T S W with
    | none => rw [take_mi0 e] at h; cases h
    | some p =>
      obtain ⟨S2, W2⟩ := p
      rw [take_mi e] at h
      obtain ⟨rfl, rfl⟩ := minus_len e
      exact take_ok h (by simpa [okO] using k)
  | .sym x :: r, false, S, S', W, W', h, k => by
    cases e : operF T x S W with
    | none => rw [take_op0 e] at h; cases h
    | some p =>
      obtain ⟨S2, W2⟩ := p
      rw [take_op e] at h
      refine take_ok h ?_
      unfold operF at e
      cases e2 : settleF T (T.get x) S W with
      | none => rw [e2] at e; cases e
      | some q =>
        rw [e2] at e
        simp only [Option.map] at e
        cases e
        simpa [okO] using settle_ok (S' := q.1) (W' := q.2) e2 k
noncomputable def boundF (T : Tb) (row : List It) (W0 : List Wt) : Option Tr := match takeF T row true [] W0 with
  | some (S, W) => wholeF S W
  | none => none
noncomputable def leftF (T : Tb) (row : List It) (x : Nm) : Option Tr := match takeF T row true [] [] with
  | some (S, W) => (match settleF T (T.get x) S W with
    | some (S, []) => S.head?
    | _ => none)
  | none => none
noncomputable def NewBinderS (w : World) : Prop :=
  ∀ (mean : ExcName → Option Value) (mg mb : Str → Option Value) (dp un : Nat) (gd : Option (List Code)) (cn : Str) (cs : Scope) (a : Addr) (ccd : Value) (cl : List (Str × Addr)) (outer : List Env) (A₀ : Around) (base h₀ : Heap) (L : Addr) (m : Str → Option Value) (M P : Led) (s : Shared)
    (T : Tb) (kv : Value) (Q E : Value → Shared → Prop),
    Below A₀ base outer h₀ → Fr h₀ L s.heap m → (Mine.hd.heap_1 w.params).In h₀ → News h₀ L s.heap (M ++ P) → Top topProg LO2 mean mg mb h₀ → cs.kind = .function → KnIn w P kv T → dp + 8 < recursionLimit → un + 8 * 8 < cLine →
    (∀ b P' h' tk' ol wl k1 k2, Fr h₀ L h' m → News h₀ L h' (BL ol wl [] [] k1 k2 (M ++ P')) → Gr (M ++ P) P P' → BSt w T M P' b ol wl [] [] [] [] → Q b { s with heap := h', toks := tk' }) →
    wpAny (model PySem.Challenge.rw_np0230_01.row.prog w) (ktrTop dp un gd cn cs L a ccd cl outer) (call (.ref 394) [kv, .ref 426, .ref 433]) Q E s
theorem binder_fin {w : World} {T : Tb} {M P : Led} {ol wl x d : Addr} {g h : Heap} {L : Addr} {h1 h2 h3 h4 h5 : Int} {t1 t2 t3 t4 t5 : Tok} {kv : Value} {n k1 k2 : Nat} (hk : KnIn w P kv T)
    (N : News g L h ((wl, listOf #[] k2) :: (ol, listOf #[] k1) :: (x, instObj 394 d) :: (d, dictOf [en "known" h1 t1 kv, en "make" h2 t2 (.ref 426), en "negate" h3 t3 (.ref 433), en "operands" h4 t4 (.ref ol), en "waiting" h5 t5 (.ref wl)] n) :: (M ++ P)))
    (l1 : ∀ p ∈ M ++ P, p.1 < d) (l2 : d < x) (l3 : x < ol ∧ d < ol ∧ AllLt ol (M ++ P)) (l4 : ol < wl ∧ x < wl ∧ d < wl ∧ AllLt wl (M ++ P)) :
    ∃ P', News g L h (BL ol wl [] [] k1 k2 (M ++ P')) ∧ Gr (M ++ P) P P' ∧ BSt w T M P' (.ref x) ol wl [] [] [] [] := by
  refine ⟨(x, instObj 394 d) :: (d, dictOf [en "known" h1 t1 kv, en "make" h2 t2 (.ref 426), en "negate" h3 t3 (.ref 433), en "operands" h4 t4 (.ref ol), en "waiting" h5 t5 (.ref wl)] n) :: P, ?_, gr_two (allLt_of l1) l2, ⟨x, d, n, h1, t1, h2, t2, h3, t3, h4, t4, h5, t5, kv, rfl, .head _, .tail _ (.head _), hk.mono fun p hp => .tail _ (.tail _ hp)⟩, .nil, .nil, Nat.ne_of_lt l4.1, ?_, ?_, by simp⟩
  · refine nsub N fun p hp => ?_
    simp only [List.mem_append, List.mem_cons] at hp ⊢
    rcases hp with h | h | h | h | h | h
    · exact .inr (.inl h)
    · exact .inl h
    · simp only [h, true_or, or_true]
    · simp only [h, true_or, or_true]
    · simp only [h, true_or, or_true]
    · simp only [h, true_or, or_true]
  · intro p hp
    simp only [List.mem_append, List.mem_cons] at hp
    rcases hp with h | rfl | rfl | h
    · exact Nat.ne_of_lt (of_allLt l3.2.2 p (List.mem_append_left _ h))
    · exact Nat.ne_of_lt l3.1
    · exact Nat.ne_of_lt l3.2.1
    · exact Nat.ne_of_lt (of_allLt l3.2.2 p (List.mem_append_right _ h))
  · intro p hp
    simp only [List.mem_append, List.mem_cons] at hp
    rcases hp with h | rfl | rfl | h
    · exact Nat.ne_of_lt (of_allLt l4.2.2.2 p (List.mem_append_left _ h))
    · exact Nat.ne_of_lt l4.2.1
    · exact Nat.ne_of_lt l4.2.2.1
    · exact Nat.ne_of_lt (of_allLt l4.2.2.2 p (List.mem_append_right _ h))
noncomputable def ItemsP (P : Led) (v : Value) (row : List It) : Prop := ∃ la ivs n, v = .ref la ∧ (la, listOf ivs.toArray n) ∈ P ∧ ItmsAre P ivs row
noncomputable def BoundS (w : World) : Prop := RSpec w 405 (D := Tb × List It) (fun _ => 75)
    (fun P vs d => ∃ iv kv, vs = [iv, kv, .ref 426, .ref 433] ∧ ItemsP P iv d.2 ∧ KnIn w P kv d.1 ∧ vld d.2 = true ∧ d.2.length ≤ 11)
    (fun P r d => ∃ t, boundF d.1 d.2 [] = some t ∧ NodeIn P r t.nt) (fun d => boundF d.1 d.2 [] = none)
noncomputable def BoundRightS (w : World) : Prop := RSpec w 419 (D := Tb × List It × Nm) (fun _ => 75)
    (fun P vs d => ∃ iv ov kv, vs = [ov, iv, kv, .ref 426, .ref 433] ∧ ItemsP P iv d.2.1 ∧ KnIn w P kv d.1 ∧ OpIn P ov d.2.2 ∧ d.2.2 ≠ .mi ∧ vld d.2.1 = true ∧ d.2.1.length ≤ 11)
    (fun P r d => ∃ t, boundF d.1 d.2.1 [.opn d.2.2] = some t ∧ NodeIn P r t.nt) (fun d => boundF d.1 d.2.1 [.opn d.2.2] = none)
noncomputable def BoundLeftS (w : World) : Prop := RSpec w 412 (D := Tb × List It × Nm) (fun _ => 75)
    (fun P vs d => ∃ iv ov kv, vs = [iv, ov, kv, .ref 426, .ref 433] ∧ ItemsP P iv d.2.1 ∧ KnIn w P kv d.1 ∧ OpIn P ov d.2.2 ∧ d.2.2 ≠ .mi ∧ vld d.2.1 = true ∧ d.2.1.length ≤ 11)
    (fun P r d => ∃ t, leftF d.1 d.2.1 d.2.2 = some t ∧ NodeIn P r t.nt) (fun d => leftF d.1 d.2.1 d.2.2 = none)
theorem bound_none {T : Tb} {row : List It} {W0 : List Wt} (h : takeF T row true [] W0 = none) : boundF T row W0 = none := by unfold boundF; rw [h]
theorem bound_some {T : Tb} {row : List It} {W0 W : List Wt} {S : List Tr} (h : takeF T row true [] W0 = some (S, W)) : boundF T row W0 = wholeF S W := by unfold boundF; rw [h]
theorem left_none {T : Tb} {row : List It} {x : Nm} (h : takeF T row true [] [] = none) : leftF T row x = none := by unfold leftF; rw [h]
theorem left_none2 {T : Tb} {row : List It} {x : Nm} {S : List Tr} {W : List Wt} (h : takeF T row true [] [] = some (S, W)) (k : settleF T (T.get x) S W = none) : leftF T row x = none := by unfold leftF; rw [h]; simp only [k]
theorem left_none3 {T : Tb} {row : List It} {x : Nm} {S S' : List Tr} {W W' : List Wt} {w : Wt} (h : takeF T row true [] [] = some (S, W)) (k : settleF T (T.get x) S W = some (S', w :: W')) : leftF T row x = none := by unfold leftF; rw [h]; simp only [k]
theorem left_some {T : Tb} {row : List It} {x : Nm} {S : List Tr} {W : List Wt} {t : Tr} (h : takeF T row true [] [] = some (S, W)) (k : settleF T (T.get x) S W = some ([t], [])) : leftF T row x = some t := by unfold leftF; rw [h]; simp only [k]; rfl
theorem Gr.bl {ol wl : Addr} {o1 o2 : Obj} {M P P1 P2 : Led} (g : Gr (M ++ P) P P1) (k : Gr ((ol, o1) :: (wl, o2) :: (M ++ P1)) P1 P2) : Gr (M ++ P) P P2 :=
  g.trans (k.mono (A := M ++ P1) fun p hp => .tail _ (.tail _ hp)) fun p hp => (List.mem_append.mp hp).elim (fun h => List.mem_append_left _ h) fun h => List.mem_append_right _ (g.sub p h)
theorem ItemsP.mono {P P' : Led} {v : Value} {row : List It} (h : ItemsP P v row) (hs : ∀ p ∈ P, p ∈ P') : ItemsP P' v row := by
  obtain ⟨la, ivs, n, e, hm, hi⟩ := h
  exact ⟨la, ivs, n, e, hs _ hm, hi.mono hs⟩
noncomputable def LawItemsS (w : World) : Prop := Spec w 515 (D := List It) (fun _ => 20)
    (fun P vs row => ∃ rv, vs = [rv] ∧ RowIn P rv row ∧ row.length ≤ 11) (fun P r row => ItemsP P r row)
noncomputable def NewOpS (w : World) : Prop := Spec w 208 (D := Nm) (fun _ => 8) (fun _ vs x => ∃ t, vs = [.str x.str t, .bool (x.str == Str.ofString ":")]) (fun P r x => OpIn P r x)
noncomputable def NewLitS (w : World) : Prop := Spec w 154 (D := Nat) (fun _ => 8) (fun _ vs i => ∃ t u, vs = [.str (Str.ofString "int") t, .int (i : Int) u]) (fun P r i => NodeIn P r (.lit i))
theorem off3_fresh {I C D : Addr} {oI oC oD : Obj} {M Pi Pi' : Led} (h : LCg.Off3 I C D (M ++ Pi)) (f : ∀ p ∈ Pi', p ∈ Pi ∨ ∀ q ∈ ((I, oI) :: (C, oC) :: (D, oD) :: M) ++ Pi, q.1 ≠ p.1) : LCg.Off3 I C D (M ++ Pi') := by
  refine LCg.Off3.of fun p hp => ?_
  rcases List.mem_append.mp hp with hp | hp
  · exact h.mem p (List.mem_append_left _ hp)
  · rcases f p hp with q | q
    · exact h.mem p (List.mem_append_right _ q)
    · exact ⟨Ne.symm (q (I, oI) (.head _)), Ne.symm (q (C, oC) (.tail _ (.head _))), Ne.symm (q (D, oD) (.tail _ (.tail _ (.head _))))⟩
section
variable {prog : Program} {w : World} {A : Around} {s : Shared} {h₀ : Heap} {L : Addr} {m : Str → Option Value} {env : Env}
theorem comp_rest {elt : PySem.Expr} {x : Str} {scope : Scope} {cl : List (Str × Addr)} {S : Led → Prop} {PP : Nat → Value → Prop} {Fin : List Value → Led → Prop} {M P : Led} {n : Nat} (J : Nat → List Value → Led → Prop)
    (step : ∀ i ys Pi v I oI C oC D m₂ h tk (E' : Value → Shared → Prop), i < n → J i ys Pi → PP i v → LCg.NsObj oC m₂ → m₂ x = some v → Fr h₀ L h m → News h₀ L h ((I, oI) :: (C, oC) :: (D, LCg.lst ys) :: (M ++ Pi)) → LCg.Off3 I C D (M ++ Pi) →
      wpAny (model prog w) A (eval elt (compEnvC scope cl C env)) (LCg.CompEnd h₀ L m { s with heap := h, toks := tk } I oI C oC D (LCg.lst ys) S (fun y news' => ∃ Pi', news' = M ++ Pi' ∧ J (i + 1) (ys ++ [y]) Pi')) E' { s with heap := h, toks := tk })
    (hJ : J 0 [] P) (fin : ∀ ys Pi, J n ys Pi → Fin ys (M ++ Pi)) : LCg.CompRest prog w A h₀ L m env elt x scope cl s S PP Fin n 0 [] (M ++ P) := by
  have key : ∀ (j i : Nat) (ys : List Value) (Pi : Led), i + j = n → J i ys Pi → LCg.CompRest prog w A h₀ L m env elt x scope cl s S PP Fin j i ys (M ++ Pi) := by
    intro j
    induction j with
    | zero =>
      intro i ys Pi hi hy
      obtain rfl : i = n := by omega
      exact LCg.CompRest.zero (fin ys Pi hy)
    | succ j ih =>
      intro i ys Pi hi hy
      refine LCg.CompRest.succ ?_
      intro v I oI C oC D m₂ h tk E' hv hC hx F N off ne
      refine wpAny_mono (step i ys Pi v I oI C oC D m₂ h tk E' (by omega) hy hv hC hx F N off) (fun y s₂ hq => ?_) fun _ _ e => e
      obtain ⟨h', tk', nw, e, F', N', off', hS, Pi', rfl, hJ'⟩ := hq
      exact ⟨h', tk', _, e, F', N', off', hS, ih (i + 1) _ Pi' (by omega) hJ'⟩
  exact key n 0 [] P (by omega) hJ
end
theorem ItmsAre.snoc {P : Led} {vs : List Value} {is : List It} {v : Value} {i : It} (h : ItmsAre P vs is) (k : ItmIn P v i) : ItmsAre P (vs ++ [v]) (is ++ [i]) := by
  induction h with
  | nil => exact .cons k .nil
  | cons a _ ih => exact .cons a ih

end
local macro_rules | `(tactic| k_ne) => `(tactic| first | assumption | exact Ne.symm (by assumption))
local macro_rules | `(tactic| k_all) => `(tactic| exact off_cons (by first | assumption | exact Ne.symm (by assumption)) (by assumption))
local macro_rules | `(tactic| walk_at "call builtin:list.pop") => `(tactic| (k_here; (with_reducible show wpAny _ _ (call (Value.builtin _) [Value.ref _]) _ _ _); k_dflt (refine' kl_pop (by k_asm) (by k_asm) (kpa_last _ _) (by k_upd) (by assumption) ?_; k_whole); intro h' F' N'))
local macro_rules | `(tactic| walk_at "compareOp NotEq ref ref") => `(tactic| (k_here; (with_reducible show wpAny _ _ (compareOp CmpOp.NotEq (Value.ref _) (Value.ref _)) _ _ _); k_dflt (first | (refine' ne_snoc ?a ?b ?u ?_; (case a => exact News.isList (by k_asm) (by k_mem)); (case b => exact News.isList (by k_asm) (by k_mem)); (case u => ktr_units); k_whole) | (refine' ne_nil ?a ?b ?u ?_; (case a => exact News.isList (by k_asm) (by k_mem)); (case b => exact News.isList (by k_asm) (by k_mem)); (case u => ktr_units); k_whole))))
local macro_rules | `(tactic| lsm_bools) => `(tactic| (k_here; (with_reducible show wpAny _ _ (subscriptTail _ _ (Value.ref _) (Value.int (-1) _)) _ _ _); k_dflt (refine' item_last (by exact News.isList (by k_asm) (by k_mem)) ?_; k_whole)))
local macro_rules | `(tactic| walk_at "subscriptTail Name UnaryOp ref int") => `(tactic| lsm_bools)
local macro_rules | `(tactic| walk_at "subscriptTail Attribute") => `(tactic| (k_here; (with_reducible show wpAny _ _ (subscriptTail _ _ (Value.ref _) (Value.int (-1) _)) _ _ _); k_dflt (refine kba_turn (value' := PySem.Expr.Name (PySem.Str.ofString "_") ⟨0, 0, 0, 0⟩) (fun _ => rfl) ?_)))


section
-- ## the plain law
noncomputable def yld : Tr → List It
  | .leaf i => [.num i]
  | .neg t => .sym .mi :: yld t
  | .bin x l r => yld l ++ .sym x :: yld r
noncomputable def okT (T : Tb) : Tr → Bool
  | .leaf _ => true
  | .neg t => okT T t && minusV T t
  | .bin x l r => decide (x ≠ .mi) && okT T l && okT T r && okBin T x l r
theorem lv_cases {R : Bool → Bool → Bool → Bool → Prop} (m n : Nat) (h1 : R true false false false) (h2 : R false true false false) (h3 : R false false true true) : R (decide (n < m)) (decide (m < n)) (decide (n = m)) (decide (m = n)) := by
  rcases Nat.lt_trichotomy n m with h | h | h
  · rw [decide_eq_true h, decide_eq_false (Nat.lt_asymm h), decide_eq_false (Nat.ne_of_lt h), decide_eq_false (Nat.ne_of_gt h)]; exact h1
  · subst h; rw [decide_eq_false (Nat.lt_irrefl _), decide_eq_true rfl]; exact h3
  · rw [decide_eq_true h, decide_eq_false (Nat.lt_asymm h), decide_eq_false (Nat.ne_of_lt h), decide_eq_false (Nat.ne_of_gt h)]; exact h2
theorem letR {T : Tb} {x y : Nm} : letV T x true y = true ↔ clashV (T.get x) (T.get y) = false ∧ bindsV (T.get x) (T.get y) = false := by
  unfold letV clashV bindsV
  generalize T.get x = f
  generalize T.get y = g
  obtain ⟨a, m⟩ := f
  obtain ⟨b, n⟩ := g
  exact lv_cases (R := fun p _ q q' => (!p && !(q && !(decide (a = b) && decide (b = if true then Wy.r else Wy.l)))) = true ↔ (q' && (!decide (a = b) || decide (a = Wy.n))) = false ∧ (p || (q' && decide (a = Wy.l))) = false) m n (by simp) (by simp) (by cases a <;> cases b <;> decide)
theorem letL {T : Tb} {x y : Nm} : letV T x false y = true ↔ clashV (T.get y) (T.get x) = false ∧ bindsV (T.get y) (T.get x) = true := by
  unfold letV clashV bindsV
  generalize T.get x = f
  generalize T.get y = g
  obtain ⟨a, m⟩ := f
  obtain ⟨b, n⟩ := g
  exact lv_cases (R := fun p p' q q' => (!p && !(q && !(decide (a = b) && decide (b = if false then Wy.r else Wy.l)))) = true ↔ (q && (!decide (b = a) || decide (b = Wy.n))) = false ∧ (p' || (q && decide (b = Wy.l))) = true) m n (by simp) (by simp) (by cases a <;> cases b <;> decide)
noncomputable def lets1 (T : Tb) (w : Wt) (t : Tr) : Bool := besideV T w.nm t true && signedV T w.nm t
noncomputable def Lets (T : Tb) (W : List Wt) (t : Tr) : Prop := ∀ w W', W = w :: W' → lets1 T w t = true
theorem Lets.nil {T : Tb} {t : Tr} : Lets T [] t := fun _ _ h => by cases h
theorem Lets.cons {T : Tb} {t : Tr} {w : Wt} {W : List Wt} (h : lets1 T w t = true) : Lets T (w :: W) t := fun _ _ e => by cases e; exact h
noncomputable def Sp : Tr → List Tr → List Wt → List Tr × List Wt
  | .leaf i, S, W => (.leaf i :: S, W)
  | .neg t, S, W => Sp t S (.neg :: W)
  | .bin x l r, S, W => Sp r (l :: S) (.bin x :: W)
theorem bs_cons {T : Tb} {x y : Nm} {l r : Tr} : besideV T x (.bin y l r) true = (letV T x true y && besideV T x l true) := by simp [besideV, edges]
theorem bs_consR {T : Tb} {x y : Nm} {l r : Tr} : besideV T x (.bin y l r) false = (letV T x false y && besideV T x r false) := by simp [besideV, edges]
theorem bs_negR {T : Tb} {x : Nm} {t : Tr} : besideV T x (.neg t) false = (letV T x false .mi && besideV T x t false) := by simp [besideV, edges]
theorem settle_sp {T : Tb} {x : Nm} : ∀ (t : Tr) (S : List Tr) (W : List Wt), besideV T x t false = true → settleF T (T.get x) (Sp t S W).1 (Sp t S W).2 = settleF T (T.get x) (t :: S) W := by
  intro t
  induction t with
  | leaf i => intro S W _; rfl
  | neg t ih =>
    intro S W h
    rw [bs_negR, Bool.and_eq_true] at h
    have h1 := letL.mp h.1
    exact (ih S (.neg :: W) h.2).trans (settle_red h1.1 h1.2)
  | bin y l r _ ih =>
    intro S W h
    rw [bs_consR, Bool.and_eq_true] at h
    have h1 := letL.mp h.1
    exact (ih (l :: S) (.bin y :: W) h.2).trans (settle_red h1.1 h1.2)
theorem whole_sp : ∀ (t : Tr) (S : List Tr) (W : List Wt), wholeF (Sp t S W).1 (Sp t S W).2 = wholeF (t :: S) W := by
  intro t
  induction t with
  | leaf i => intro S W; rfl
  | neg t ih => intro S W; exact ih S (.neg :: W)
  | bin y l r _ ih => intro S W; exact ih (l :: S) (.bin y :: W)
theorem settle_let {T : Tb} {x : Nm} {S : List Tr} {W : List Wt} (h : ∀ w W', W = w :: W' → letV T w.nm true x = true) : settleF T (T.get x) S W = some (S, W) := by
  cases W with
  | nil => rfl
  | cons w W =>
    have h1 := letR.mp (h w W rfl)
    exact settle_stop h1.1 h1.2
-- behind a minus no minus stands at the left end
theorem minus_lets {T : Tb} : ∀ {t : Tr}, okT T t = true → minusV T t = true → lets1 T .neg t = true := by
  have key : ∀ {t : Tr}, okT T t = true → besideV T .mi t true = true → (∀ u, t ≠ .neg u) → signedV T .mi t = true := by
    intro t
    induction t with
    | leaf i => intros; rfl
    | neg t _ => intro _ _ h; exact absurd rfl (h t)
    | bin y l r ihl _ =>
      intro ho hb _
      rw [bs_cons (r := r), Bool.and_eq_true] at hb
      simp only [okT, okBin, Bool.and_eq_true, decide_eq_true_eq] at ho
      refine ihl ho.1.1.2 hb.2 ?_
      rintro u rfl
      have h1 := ho.2.1.1
      rw [bs_negR, Bool.and_eq_true] at h1
      have a := letR.mp hb.1
      have b := letL.mp h1.1
      rw [a.2] at b
      cases b.2
  intro t ho hm
  cases t with
  | leaf i => rfl
  | neg t => cases hm
  | bin y l r => simp only [lets1, Wt.nm, Bool.and_eq_true]; exact ⟨hm, key ho hm (fun u h => by cases h)⟩
theorem take_tree {T : Tb} : ∀ (t : Tr) (S : List Tr) (W : List Wt) (rest : List It), okT T t = true → Lets T W t → takeF T (yld t ++ rest) true S W = takeF T rest false (Sp t S W).1 (Sp t S W).2
  | .leaf i, S, W, rest, _, _ => rfl
  | .neg t, S, W, rest, h, hl => by
    simp only [okT, Bool.and_eq_true] at h
    have ih := take_tree t S (.neg :: W) rest h.1 (.cons (minus_lets h.1 h.2))
    rw [Sp, ← ih, yld, List.cons_append]
    conv => lhs; unfold takeF
    cases W with
    | nil => rfl
    | cons w W =>
      have := hl w W rfl
      simp only [lets1, signedV, Bool.and_eq_true, decide_eq_true_eq] at this
      have h6 : ¬ 6 ≤ (w.fx T).lv := Nat.not_le.mpr this.2
      simp only [if_neg h6]
  | .bin x l r, S, W, rest, h, hl => by
    simp only [okT, okBin, Bool.and_eq_true, decide_eq_true_eq] at h
    obtain ⟨⟨⟨hx, hol⟩, hor⟩, ⟨h1, h2⟩, h3⟩ := h
    have hl1 : Lets T W l := fun w W' e => by
      have := hl w W' e
      simp only [lets1, signedV, Bool.and_eq_true] at this ⊢
      rw [bs_cons (r := r), Bool.and_eq_true] at this
      exact ⟨this.1.2, this.2⟩
    have hl2 : ∀ w W', W = w :: W' → letV T w.nm true x = true := fun w W' e => by
      have := hl w W' e
      simp only [lets1, signedV, Bool.and_eq_true] at this
      rw [bs_cons (r := r), Bool.and_eq_true] at this
      exact this.1.1
    rw [yld, List.append_assoc, take_tree l S W _ hol hl1, List.cons_append]
    conv => lhs; unfold takeF
    rw [settle_sp l S W h1, settle_let hl2, Sp]
    exact take_tree r (l :: S) (.bin x :: W) rest hor (.cons (by simp only [lets1, Wt.nm, h2, h3, Bool.and_self]))
theorem bound_c {T : Tb} {t : Tr} (h : okT T t = true) : boundF T (yld t) [] = some t := by
  have h1 := take_tree t [] [] [] h .nil
  rw [List.append_nil] at h1
  unfold boundF
  rw [h1, takeF]
  exact whole_sp t [] []
theorem right_c {T : Tb} {t : Tr} {x : Nm} (h : okT T t = true) (hb : besideV T x t true = true) (hs : signedV T x t = true) : boundF T (yld t) [.opn x] = some t := by
  have h1 := take_tree t [] [.opn x] [] h (.cons (by simp only [lets1, Wt.nm, hb, hs, Bool.and_self]))
  rw [List.append_nil] at h1
  unfold boundF
  rw [h1, takeF]
  exact whole_sp t [] [.opn x]
theorem left_c {T : Tb} {t : Tr} {x : Nm} (h : okT T t = true) (hb : besideV T x t false = true) : leftF T (yld t) x = some t := by
  have h1 := take_tree t [] [] [] h .nil
  rw [List.append_nil] at h1
  unfold leftF
  rw [h1, takeF]
  simp only [settle_sp t [] [] hb]
  rfl
-- soundness
inductive GT (T : Tb) (W0 : List Wt) : List Tr → List Wt → List It → Prop
  | base : GT T W0 [] W0 []
  | bin {S : List Tr} {W : List Wt} {pre : List It} {l : Tr} {x : Nm} : GT T W0 S W pre → x ≠ .mi → okT T l = true → Lets T W l → (∀ w W', W = w :: W' → letV T w.nm true x = true) → besideV T x l false = true → GT T W0 (l :: S) (.bin x :: W) (pre ++ (yld l ++ [.sym x]))
  | neg {S : List Tr} {W : List Wt} {pre : List It} : GT T W0 S W pre → (∀ w W', W = w :: W' → (w.fx T).lv < 6) → GT T W0 S (.neg :: W) (pre ++ [.sym .mi])
inductive GF (T : Tb) (W0 : List Wt) : List Tr → List Wt → List It → Prop
  | mk {S : List Tr} {W : List Wt} {pre : List It} {t : Tr} : GT T W0 S W pre → okT T t = true → Lets T W t → GF T W0 (t :: S) W (pre ++ yld t)
noncomputable def Base (W0 : List Wt) : Prop := W0 = [] ∨ ∃ x, W0 = [.opn x]
theorem lets_neg {T : Tb} {t : Tr} {W : List Wt} (h : ∀ w W', W = w :: W' → (w.fx T).lv < 6) : Lets T W (.neg t) := fun w W' e => by
  have := h w W' e
  simp only [lets1, signedV, besideV, edges, List.all_nil, Bool.true_and, decide_eq_true_eq, Bool.not_true]
  exact this
theorem GT.bin_ok {T : Tb} {W : List Wt} {l t : Tr} {y : Nm} (hy : y ≠ .mi) (hol : okT T l = true) (hll : Lets T W l) (hly : ∀ w W', W = w :: W' → letV T w.nm true y = true) (hbl : besideV T y l false = true) (ho : okT T t = true) (hlw : lets1 T (.bin y) t = true) : okT T (.bin y l t) = true ∧ Lets T W (.bin y l t) := by
  refine ⟨?_, fun v V e => ?_⟩
  · obtain ⟨h1, h2⟩ := Bool.and_eq_true_iff.mp hlw
    exact Bool.and_eq_true_iff.mpr ⟨Bool.and_eq_true_iff.mpr ⟨Bool.and_eq_true_iff.mpr ⟨decide_eq_true hy, hol⟩, ho⟩, Bool.and_eq_true_iff.mpr ⟨Bool.and_eq_true_iff.mpr ⟨hbl, h1⟩, h2⟩⟩
  · obtain ⟨h1, h2⟩ := Bool.and_eq_true_iff.mp (hll v V e)
    exact Bool.and_eq_true_iff.mpr ⟨by rw [bs_cons]; exact Bool.and_eq_true_iff.mpr ⟨hly v V e, h1⟩, h2⟩
theorem GT.neg_ok {T : Tb} {t : Tr} (ho : okT T t = true) (hlw : lets1 T .neg t = true) : okT T (.neg t) = true := by
  obtain ⟨h1, h2⟩ := Bool.and_eq_true_iff.mp hlw
  refine Bool.and_eq_true_iff.mpr ⟨ho, ?_⟩
  cases t with
  | neg u => exact absurd (of_decide_eq_true h2) (Nat.lt_irrefl 6)
  | leaf i => exact h1
  | bin y l r => exact h1
theorem yld_bin {pre : List It} {l t : Tr} {y : Nm} : pre ++ yld (.bin y l t) = (pre ++ (yld l ++ [.sym y])) ++ yld t := by simp [yld]
theorem yld_neg {pre : List It} {t : Tr} : pre ++ yld (.neg t) = (pre ++ [.sym .mi]) ++ yld t := by simp [yld]
theorem GF.settle {T : Tb} {W0 : List Wt} (hW0 : Base W0) {x : Nm} {S' : List Tr} {W' : List Wt} : ∀ {W : List Wt} {S : List Tr} {t : Tr} {pre : List It}, GT T W0 S W pre → okT T t = true → Lets T W t → besideV T x t false = true → settleF T (T.get x) (t :: S) W = some (S', W') →
    ∃ t' S'' pre', S' = t' :: S'' ∧ GT T W0 S'' W' pre' ∧ okT T t' = true ∧ Lets T W' t' ∧ besideV T x t' false = true ∧ pre' ++ yld t' = pre ++ yld t ∧ ∀ w W'', W' = w :: W'' → letV T w.nm true x = true := by
  intro W
  induction W with
  | nil =>
    intro S t pre hg ho hl hb he
    cases he
    exact ⟨t, S, pre, rfl, hg, ho, hl, hb, rfl, fun _ _ h => by cases h⟩
  | cons w W ih =>
    intro S t pre hg ho hl hb he
    cases hc : clashV (w.fx T) (T.get x) with
    | true => rw [settle_clash hc] at he; cases he
    | false =>
      cases hbi : bindsV (w.fx T) (T.get x) with
      | true =>
        rw [settle_red hc hbi] at he
        have hlet : letV T x false w.nm = true := letL.mpr ⟨hc, hbi⟩
        have hlw := hl w W rfl
        cases hg with
        | base =>
          rcases hW0 with h | ⟨y, h⟩
          · cases h
          · cases h
            cases he
        | @bin S0 _ pre0 l y hg0 hy hol hll hly hbl =>
          obtain ⟨ho2, hl2⟩ := GT.bin_ok hy hol hll hly hbl ho hlw
          rw [← yld_bin]
          exact ih hg0 ho2 hl2 (by rw [bs_consR]; exact Bool.and_eq_true_iff.mpr ⟨hlet, hb⟩) he
        | @neg _ _ pre0 hg0 h6 =>
          rw [← yld_neg]
          exact ih hg0 (GT.neg_ok ho hlw) (lets_neg h6) (by rw [bs_negR]; exact Bool.and_eq_true_iff.mpr ⟨hlet, hb⟩) he
      | false =>
        rw [settle_stop hc hbi] at he
        cases he
        exact ⟨t, S, pre, rfl, hg, ho, hl, hb, rfl, fun v V e => by cases e; exact letR.mpr ⟨hc, hbi⟩⟩
theorem GF.whole {T : Tb} {W0 : List Wt} (hW0 : Base W0) {u : Tr} : ∀ {W : List Wt} {S : List Tr} {t : Tr} {pre : List It}, GT T W0 S W pre → okT T t = true → Lets T W t → wholeF (t :: S) W = some u →
    okT T u = true ∧ yld u = pre ++ yld t ∧ Lets T W0 u := by
  intro W
  induction W with
  | nil =>
    intro S t pre hg ho hl he
    cases hg with
    | base => cases he; exact ⟨ho, rfl, hl⟩
  | cons w W ih =>
    intro S t pre hg ho hl he
    have hlw := hl w W rfl
    cases hg with
    | base =>
      rcases hW0 with h | ⟨y, h⟩
      · cases h
      · cases h
        cases he
        exact ⟨ho, rfl, hl⟩
    | @bin S0 _ pre0 l y hg0 hy hol hll hly hbl =>
      obtain ⟨ho2, hl2⟩ := GT.bin_ok hy hol hll hly hbl ho hlw
      rw [← yld_bin]
      exact ih hg0 ho2 hl2 he
    | @neg _ _ pre0 hg0 h6 =>
      rw [← yld_neg]
      exact ih hg0 (GT.neg_ok ho hlw) (lets_neg h6) he
theorem take_s {T : Tb} {W0 : List Wt} (hW0 : Base W0) {S' : List Tr} {W' : List Wt} : ∀ {row : List It},
    (∀ {m : Bool} {S : List Tr} {W : List Wt} {pre : List It}, vldA row true m = true → GT T W0 S W pre → takeF T row true S W = some (S', W') → ∃ i S'' pre', S' = .leaf i :: S'' ∧ GT T W0 S'' W' pre' ∧ pre' ++ [.num i] = pre ++ row) ∧
    (∀ {S : List Tr} {W : List Wt} {pre : List It} {j : Nat}, vldA row false false = true → GT T W0 S W pre → takeF T row false (.leaf j :: S) W = some (S', W') → ∃ i S'' pre', S' = .leaf i :: S'' ∧ GT T W0 S'' W' pre' ∧ pre' ++ [.num i] = pre ++ .num j :: row) := by
  intro row
  induction row with
  | nil =>
    refine ⟨fun h => (by cases h), fun {S W pre j} _ hg he => ?_⟩
    cases he
    exact ⟨j, S, pre, rfl, hg, rfl⟩
  | cons it r ih =>
    refine ⟨fun {m S W pre} hv hg he => ?_, fun {S W pre j} hv hg he => ?_⟩
    · cases it with
      | num i => exact ih.2 hv hg he
      | sym y =>
        obtain ⟨-, hv⟩ := Bool.and_eq_true_iff.mp hv
        obtain ⟨hy, hr⟩ := Bool.and_eq_true_iff.mp hv
        cases of_decide_eq_true hy
        have h6 : (∀ w V, W = w :: V → (w.fx T).lv < 6) ∧ takeF T r true S (.neg :: W) = some (S', W') := by
          cases W with
          | nil => exact ⟨fun _ _ e => (by cases e), he⟩
          | cons w W =>
            cases e : minusF T S (w :: W) with
            | none => rw [take_mi0 e] at he; cases he
            | some p =>
              obtain ⟨S2, W2⟩ := p
              rw [take_mi e] at he
              by_cases hn : 6 ≤ (w.fx T).lv
              · rw [show minusF T S (w :: W) = none from if_pos hn] at e; cases e
              · obtain ⟨rfl, rfl⟩ := minus_len e
                exact ⟨fun v V e => by cases e; exact Nat.lt_of_not_le hn, he⟩
        obtain ⟨j, S3, p3, e1, e2, e3⟩ := ih.1 hr (.neg hg h6.1) h6.2
        exact ⟨j, S3, p3, e1, e2, by rw [e3, List.append_assoc]; rfl⟩
    · cases it with
      | num i => cases hv
      | sym x =>
        obtain ⟨hx, hr⟩ := Bool.and_eq_true_iff.mp hv
        cases hs : settleF T (T.get x) (.leaf j :: S) W with
        | none => rw [take_op0 (oper_none hs)] at he; cases he
        | some p =>
          obtain ⟨S1, W1⟩ := p
          rw [take_op (oper_some hs)] at he
          obtain ⟨t', S'', pre', rfl, h1, h2, h3, h4, h5, h6⟩ := GF.settle hW0 hg (by rfl) (fun _ _ _ => rfl) rfl hs
          obtain ⟨i, S3, p3, e1, e2, e3⟩ := ih.1 hr (.bin h1 (of_decide_eq_true hx) h2 h3 h6 h4) he
          refine ⟨i, S3, p3, e1, e2, ?_⟩
          rw [e3, ← List.append_assoc pre', h5, List.append_assoc, List.append_assoc]; rfl
theorem bound_s {T : Tb} {row : List It} {W0 : List Wt} (hW0 : Base W0) (hv : vld row = true) {u : Tr} (h : boundF T row W0 = some u) : okT T u = true ∧ yld u = row ∧ Lets T W0 u := by
  unfold boundF at h
  split at h
  · rename_i S W he
    obtain ⟨i, S', pre, rfl, hg, e⟩ := (take_s hW0).1 hv .base he
    obtain ⟨h1, h2, h3⟩ := GF.whole hW0 hg (t := .leaf i) rfl (fun _ _ _ => rfl) h
    exact ⟨h1, by rw [h2, yld, e]; rfl, h3⟩
  · cases h
theorem left_s {T : Tb} {row : List It} {x : Nm} (hv : vld row = true) {u : Tr} (h : leftF T row x = some u) : okT T u = true ∧ yld u = row ∧ besideV T x u false = true := by
  unfold leftF at h
  split at h
  · rename_i S W he
    obtain ⟨i, S', pre, rfl, hg, e⟩ := (take_s (.inl rfl)).1 hv .base he
    split at h
    · rename_i S2 hs
      obtain ⟨t', S'', pre', rfl, h1, h2, h3, h4, h5, h6⟩ := GF.settle (.inl rfl) hg (t := .leaf i) rfl (fun _ _ _ => rfl) rfl hs
      cases h1
      cases h
      exact ⟨h2, by have := h5; simp only [List.nil_append] at this; rw [this, yld, e]; rfl, h4⟩
    · cases h
  · cases h
theorem yld_pos : ∀ t : Tr, 0 < (yld t).length
  | .leaf _ => by simp [yld]
  | .neg t => by simp [yld]
  | .bin x l r => by simp only [yld, List.length_append, List.length_cons]; omega
theorem tn_two {T : Tb} {n : Nat} {i j : It} {rest : List It} : treesN T (n + 1) (i :: j :: rest) = (if i = .sym .mi then ((treesN T n (j :: rest)).filter (minusV T)).map .neg else []) ++ (List.range (rest.length + 1)).flatMap (atK T (treesN T n) (i :: j :: rest)) := by cases i <;> rfl
theorem row_split {α : Type} {l : List α} {k : Nat} {x : α} (h : l[k]? = some x) : l.take k ++ x :: l.drop (k + 1) = l := by
  obtain ⟨hk, rfl⟩ := List.getElem?_eq_some_iff.mp h
  rw [← List.drop_eq_getElem_cons hk, List.take_append_drop]
theorem atK_mem {T : Tb} {n : Nat} {row : List It} {k : Nat} {t : Tr} (h : t ∈ atK T (treesN T n) row k) : ∃ x l r, t = .bin x l r ∧ x ≠ .mi ∧ row[k + 1]? = some (.sym x) ∧ l ∈ treesN T n (row.take (k + 1)) ∧ r ∈ treesN T n (row.drop (k + 2)) ∧ okBin T x l r = true := by
  unfold atK at h
  split at h
  · rename_i x hx
    split at h
    · cases h
    · rename_i hm
      obtain ⟨l, hl, h⟩ := List.mem_flatMap.mp h
      unfold inner at h
      obtain ⟨r, hr, rfl⟩ := List.mem_map.mp h
      obtain ⟨hr, ho⟩ := List.mem_filter.mp hr
      exact ⟨x, l, r, rfl, hm, hx, hl, hr, ho⟩
  · cases h
theorem trees_s {T : Tb} : ∀ (n : Nat) (row : List It) (t : Tr), vld row = true → t ∈ treesN T n row → okT T t = true ∧ yld t = row := by
  intro n
  induction n with
  | zero => intro row t _ h; cases h
  | succ n ih =>
    intro row t hv h
    match row, hv, h with
    | [], _, h => cases h
    | [.num i], _, h =>
      simp only [treesN, List.mem_singleton] at h
      subst h
      exact ⟨rfl, rfl⟩
    | [.sym _], _, h => cases h
    | i :: j :: rest, hv, h =>
      rw [tn_two, List.mem_append] at h
      rcases h with h | h
      · split at h
        · rename_i hi
          subst hi
          obtain ⟨u, hu, rfl⟩ := List.mem_map.mp h
          obtain ⟨hu, hm⟩ := List.mem_filter.mp hu
          obtain ⟨h1, h2⟩ := ih _ _ (vld_minus hv) hu
          exact ⟨by simp only [okT, h1, hm, Bool.and_self], by rw [yld, h2]⟩
        · cases h
      · obtain ⟨k, hk, h⟩ := List.mem_flatMap.mp h
        obtain ⟨x, l, r, rfl, hx, hit, hl, hr, ho⟩ := atK_mem h
        obtain ⟨v1, v2⟩ := vld_split hx hv hit
        obtain ⟨a1, a2⟩ := ih _ _ v1 hl
        obtain ⟨b1, b2⟩ := ih _ _ v2 hr
        refine ⟨by simp only [okT, a1, b1, ho, decide_eq_true hx, Bool.and_self], ?_⟩
        rw [yld, a2, b2]
        exact row_split hit
theorem trees_c {T : Tb} : ∀ (n : Nat) (t : Tr), vld (yld t) = true → (yld t).length ≤ n → okT T t = true → t ∈ treesN T n (yld t) := by
  intro n
  induction n with
  | zero => intro t _ h; have := yld_pos t; omega
  | succ n ih =>
    intro t hv hn ho
    cases t with
    | leaf i => exact List.mem_singleton.mpr rfl
    | neg u =>
      simp only [okT, Bool.and_eq_true] at ho
      rw [yld] at hv hn ⊢
      have hv2 := vld_minus hv
      have hm := ih u hv2 (by simp only [List.length_cons] at hn; omega) ho.1
      cases e : yld u with
      | nil => have := yld_pos u; rw [e] at this; simp at this
      | cons j rest =>
        rw [tn_two, if_pos rfl, List.mem_append]
        rw [e] at hm
        exact .inl (List.mem_map.mpr ⟨u, List.mem_filter.mpr ⟨hm, ho.2⟩, rfl⟩)
    | bin x l r =>
      simp only [okT, Bool.and_eq_true, decide_eq_true_eq] at ho
      obtain ⟨⟨⟨hx, hol⟩, hor⟩, hob⟩ := ho
      have pl := yld_pos l
      have pr := yld_pos r
      rw [yld] at hv hn ⊢
      simp only [List.length_append, List.length_cons] at hn
      generalize hrow : yld l ++ .sym x :: yld r = row at hv ⊢
      obtain ⟨k, hk⟩ : ∃ k, (yld l).length = k + 1 := ⟨(yld l).length - 1, by omega⟩
      have hlen : row.length = k + 2 + (yld r).length := by rw [← hrow, List.length_append, List.length_cons, hk]; omega
      have hit : row[k + 1]? = some (.sym x) := by rw [← hrow, List.getElem?_append_right (by omega), hk, Nat.sub_self]; rfl
      have ht : row.take (k + 1) = yld l := by rw [← hrow, ← hk, List.take_left]
      have hd : row.drop (k + 2) = yld r := by
        rw [← hrow, show k + 2 = (yld l).length + 1 by omega, List.drop_append]
        simp
      obtain ⟨v1, v2⟩ := vld_split hx hv hit
      rw [ht] at v1
      rw [hd] at v2
      have m1 := ih l v1 (by omega) hol
      have m2 := ih r v2 (by omega) hor
      match row, hit, ht, hd, hlen with
      | i :: j :: rest, hit, ht, hd, hlen =>
        rw [tn_two, List.mem_append]
        refine .inr (List.mem_flatMap.mpr ⟨k, List.mem_range.mpr (by simp only [List.length_cons] at hlen; omega), ?_⟩)
        rw [show atK T (treesN T n) (i :: j :: rest) k = (treesN T n ((i :: j :: rest).take (k + 1))).flatMap fun a => inner T x a (treesN T n ((i :: j :: rest).drop (k + 2))) by unfold atK; rw [hit]; simp only [if_neg hx], ht, hd]
        exact List.mem_flatMap.mpr ⟨l, m1, List.mem_map.mpr ⟨r, List.mem_filter.mpr ⟨m2, hob⟩, rfl⟩⟩
      | [_], _, _, _, hlen => simp only [List.length_cons, List.length_nil] at hlen; omega
      | [], _, _, _, hlen => simp only [List.length_nil] at hlen; omega
theorem trees_nd {T : Tb} : ∀ (n : Nat) (row : List It), vld row = true → (treesN T n row).Pairwise (· ≠ ·) := by
  intro n
  induction n with
  | zero => intro row _; exact .nil
  | succ n ih =>
    intro row hv
    match row, hv with
    | [], _ => exact .nil
    | [.num i], _ => exact List.pairwise_singleton ..
    | [.sym _], _ => exact .nil
    | i :: j :: rest, hv =>
      rw [tn_two, List.pairwise_append]
      refine ⟨?_, ?_, ?_⟩
      · split
        · rename_i hi
          subst hi
          exact List.Pairwise.map _ (fun a b h e => h (Tr.neg.inj e)) ((ih _ (vld_minus hv)).filter _)
        · exact .nil
      · rw [List.pairwise_flatMap]
        refine ⟨?_, ?_⟩
        · intro k hk
          unfold atK
          split
          · rename_i x hx
            split
            · exact .nil
            · rename_i hm
              obtain ⟨v1, v2⟩ := vld_split hm hv hx
              rw [List.pairwise_flatMap]
              refine ⟨?_, ?_⟩
              · intro l hl
                exact List.Pairwise.map _ (fun a b h e => h (Tr.bin.inj e).2.2) ((ih _ v2).filter _)
              · refine (ih _ v1).imp ?_
                rintro a b h u hu v hv e
                subst e
                obtain ⟨c, -, rfl⟩ := List.mem_map.mp hu
                obtain ⟨d, -, hd⟩ := List.mem_map.mp hv
                exact h (Tr.bin.inj hd).2.1.symm
          · exact .nil
        · have key : ∀ k t, k < rest.length + 1 → t ∈ atK T (treesN T n) (i :: j :: rest) k → ∃ x l r, t = .bin x l r ∧ (yld l).length = k + 1 := by
            intro k t hk ht
            obtain ⟨x, l, r, rfl, hx, hit, hl, -, -⟩ := atK_mem ht
            obtain ⟨v1, -⟩ := vld_split hx hv hit
            refine ⟨x, l, r, rfl, ?_⟩
            rw [(trees_s n _ _ v1 hl).2, List.length_take]
            simp only [List.length_cons]
            omega
          refine List.Pairwise.imp_of_mem ?_ List.pairwise_lt_range
          intro a b ha hb hab u hu v hv e
          subst e
          obtain ⟨x, l, r, rfl, h1⟩ := key a u (List.mem_range.mp ha) hu
          obtain ⟨x', l', r', e, h2⟩ := key b _ (List.mem_range.mp hb) hv
          cases e
          omega
      · intro u hu v hv e
        subst e
        split at hu
        · obtain ⟨c, -, rfl⟩ := List.mem_map.mp hu
          obtain ⟨k, -, h⟩ := List.mem_flatMap.mp hv
          obtain ⟨x, l, r, e, -⟩ := atK_mem h
          cases e
        · cases hu
theorem one_of {α : Type} {l : List α} (h : l.Pairwise (· ≠ ·)) (k : ∀ a ∈ l, ∀ b ∈ l, a = b) : l = [] ∨ ∃ a, l = [a] := by
  match l, h, k with
  | [], _, _ => exact .inl rfl
  | [a], _, _ => exact .inr ⟨a, rfl⟩
  | a :: b :: l, h, k => exact absurd (k a (.head _) b (.tail _ (.head _))) ((List.pairwise_cons.mp h).1 b (.head _))
theorem law_due {T : Tb} {n : Nat} {row : List It} (hv : vld row = true) (hn : row.length ≤ n) : treesN T n row = (boundF T row []).toList := by
  have key : ∀ t, t ∈ treesN T n row → boundF T row [] = some t := by
    intro t ht
    obtain ⟨h1, rfl⟩ := trees_s n row t hv ht
    exact bound_c h1
  rcases one_of (trees_nd n row hv) (fun a ha b hb => Option.some.inj ((key a ha).symm.trans (key b hb))) with e | ⟨t, e⟩
  · cases hb : boundF T row [] with
    | none => exact e
    | some u =>
      obtain ⟨h1, h2, -⟩ := bound_s (.inl rfl) hv hb
      subst h2
      have := trees_c n u hv hn h1
      rw [e] at this
      cases this
  · rw [e, key t (by rw [e]; exact .head _)]
    rfl
theorem law_left {T : Tb} {n : Nat} {row : List It} {x : Nm} (hv : vld row = true) (hn : row.length ≤ n) : (treesN T n row).filter (fun t => besideV T x t false) = (leftF T row x).toList := by
  cases hl : leftF T row x with
  | none =>
    refine List.filter_eq_nil_iff.mpr fun t ht hb => ?_
    obtain ⟨h1, rfl⟩ := trees_s n row t hv ht
    rw [left_c h1 hb] at hl
    cases hl
  | some u =>
    obtain ⟨h1, h2, h3⟩ := left_s hv hl
    subst h2
    rw [law_due hv hn, bound_c h1]
    show List.filter _ [u] = [u]
    exact List.filter_eq_self.mpr fun t ht => by rw [List.mem_singleton.mp ht]; exact h3
theorem law_right {T : Tb} {n : Nat} {row : List It} {x : Nm} (hv : vld row = true) (hn : row.length ≤ n) : (treesN T n row).filter (fun t => besideV T x t true && signedV T x t) = (boundF T row [.opn x]).toList := by
  cases hl : boundF T row [.opn x] with
  | none =>
    refine List.filter_eq_nil_iff.mpr fun t ht hb => ?_
    obtain ⟨h1, rfl⟩ := trees_s n row t hv ht
    rw [Bool.and_eq_true] at hb
    rw [right_c h1 hb.1 hb.2] at hl
    cases hl
  | some u =>
    obtain ⟨h1, h2, h3⟩ := bound_s (.inr ⟨x, rfl⟩) hv hl
    subst h2
    rw [law_due hv hn, bound_c h1]
    show List.filter _ [u] = [u]
    have := h3 _ _ rfl
    simp only [lets1, Wt.nm] at this
    exact List.filter_eq_self.mpr fun t ht => by rw [List.mem_singleton.mp ht]; exact this

end
section
theorem reduce_spec (w : World) (hApp : AppliedS w) (hNeg : NegatedS w) : ReduceS w := by
  unfold ReduceS BSpec
  k_fill
  rintro mean mg mb dp un gd cn cs a ccd cl outer A₀ base h₀ L m M P s args ⟨⟩ T b ol wl vs ws n1 n2 S W Q E B F X N TT hk hDD1 hok ⟨pl, rfl⟩ hd hu hret hrz
  obtain ⟨hb, hS, hW, hne, hoo, how, hrm⟩ := hDD1
  have hb0 := hb
  refine el14 hb ?_
  rintro ab db _ _ _ _ _ _ _ _ _ _ _ kv ⟨rfl, hab, hdb, hkn⟩
  dsimp only at hd hu
  refine wpAny_call ?_
  k_dflt ktr_enter
  w_strict (
    walk_at "norm"
    rename_i g1 L1 h1 FG1 F1 N1 B1 X1 T1
    (replace F1 := fr_lk [(Str.ofString "place", pl), (Str.ofString "self", .ref ab)] F1)
    (dsimp only [lkm] at F1)
    have hwl : ws.length ≤ 60 := by rw [hW.length]; omega
    have hvl : vs.length ≤ 60 := by rw [hS.length]; omega
    rcases hok with ⟨x, W', rfl⟩ | ⟨t, S', W', rfl, rfl⟩ | ⟨r, l, S', x, W', rfl, rfl⟩
    · cases hW with
      | @snoc ws' _ v _ hW' hw =>
      refine el12 hw ?_
      rintro aw dw _ _ _ _ _ _ _ _ ov fv ⟨rfl, haw, hdw, hov, hfv⟩
      simp only [Wt.srt] at hdw
      have hzw : (ws' ++ [Value.ref aw]).toArray.toList.length ≤ sizeLine := lst60 hwl
      (repeat' (first | ((fail_if_success (with_reducible (first | refine tW ?_ | refine tI ?_ | refine tF ?_ | refine tC ?_ | refine tX ?_ | refine tR 426 ?_ | refine tR 433 ?_ | refine tR 426 ?_ | refine tR 433 ?_ | refine tR 314 ?_ | refine tR 321 ?_ | refine tR 377 ?_ | refine tR 370 ?_ | refine tR 286 ?_ | refine tR 384 ?_ | refine tR 391 ?_ | refine tR 45 ?_ | refine tR 475 ?_ | refine tR 482 ?_ | refine tR 489 ?_ | refine tR 496 ?_ | refine tR 503 ?_ | refine tR 510 ?_))); first | ((with_reducible show WhileStep2 _ _ _ _ _ _ (Flow.ret _) _); dsimp only [WhileStep2]) | ((with_reducible show TurnP _ _ _ _ _ _ _ _ _ (Flow.ret _) _); dsimp only [TurnP]) | (k_unfold; (try dsimp only)) | (k_end; first | refine' next_q (by with_reducible assumption) ?_ | refine' ret_q (by with_reducible assumption) ?_ | refine' brk_q (by with_reducible assumption) ?_ | refine' cont_q (by with_reducible assumption) ?_) | (k_end; wrow_close) | walk1 | (dsimp only; walk1) | (leave1; walk_say "STEP leave1"; try dsimp only)) | fail "no step"))
      ((k_here; refine' raise_own (by rfl) ?_; k_whole); (repeat' (first | ((fail_if_success (with_reducible (first | refine tW ?_ | refine tI ?_ | refine tF ?_ | refine tC ?_ | refine tX ?_ | refine tR 426 ?_ | refine tR 433 ?_ | refine tR 426 ?_ | refine tR 433 ?_ | refine tR 314 ?_ | refine tR 321 ?_ | refine tR 377 ?_ | refine tR 370 ?_ | refine tR 286 ?_ | refine tR 384 ?_ | refine tR 391 ?_ | refine tR 45 ?_ | refine tR 475 ?_ | refine tR 482 ?_ | refine tR 489 ?_ | refine tR 496 ?_ | refine tR 503 ?_ | refine tR 510 ?_))); first | ((with_reducible show WhileStep2 _ _ _ _ _ _ (Flow.ret _) _); dsimp only [WhileStep2]) | ((with_reducible show TurnP _ _ _ _ _ _ _ _ _ (Flow.ret _) _); dsimp only [TurnP]) | (k_unfold; (try dsimp only)) | (k_end; first | refine' next_q (by with_reducible assumption) ?_ | refine' ret_q (by with_reducible assumption) ?_ | refine' brk_q (by with_reducible assumption) ?_ | refine' cont_q (by with_reducible assumption) ?_) | (k_end; wrow_close) | walk1 | (dsimp only; walk1) | (leave1; walk_say "STEP leave1"; try dsimp only)) | fail "no step")); (refine' fix_call (cl := []) ?Bq8 ?Fq8 ?Xq8 ?Nq8 ?Tq8 rfl ?dq8 ?_; (case Bq8 => assumption); (case Fq8 => assumption); (case Xq8 => assumption); (case Nq8 => assumption); (case Tq8 => assumption); (case dq8 => ktr_room); intro zh3 ztk3 ze3 za3 zd3 zF3 zN3 zl3; refine' ⟨ze3, za3, zd3, rfl, ⟨_, _, _, _, by assumption, zF3, rfl⟩, (zN3 _ (.head _)).1, ?_⟩; (show wpAny _ _ (leaving _ _) _ _ _); refine' leave_ownS ?Kq8 zF3 zN3 (fun p hp => Nat.ne_of_lt (zl3 p hp)) ?_; (case Kq8 => assumption); intro zh4 zR4 zU4))
      exact hrz _ _ _ _ (by assumption) (RaisedSN.less (by assumption) (fun p hp => .tail _ (.tail _ hp))) (by assumption) (stepR_opn ..)
    · cases hW with
      | @snoc ws' _ v _ hW' hw =>
      cases hS with
      | @snoc vs' _ v2 _ hS' hn1 =>
      refine el12 hw ?_
      rintro aw dw _ _ _ _ _ _ _ _ ov fv ⟨rfl, haw, hdw, hov, hfv⟩
      simp only [Wt.srt] at hdw
      refine el10 (id hov) ?_
      rintro ao do_ _ _ _ _ _ _ _ _ ⟨rfl, hao, hdo⟩
      have hzw := lst60 hwl
      have hzv := lst60 hvl
      (repeat' (first | ((fail_if_success (with_reducible (first | refine tW ?_ | refine tI ?_ | refine tF ?_ | refine tC ?_ | refine tX ?_ | refine tR 426 ?_ | refine tR 433 ?_ | refine tR 426 ?_ | refine tR 433 ?_ | refine tR 314 ?_ | refine tR 321 ?_ | refine tR 377 ?_ | refine tR 370 ?_ | refine tR 286 ?_ | refine tR 384 ?_ | refine tR 391 ?_ | refine tR 45 ?_ | refine tR 475 ?_ | refine tR 482 ?_ | refine tR 489 ?_ | refine tR 496 ?_ | refine tR 503 ?_ | refine tR 510 ?_))); first | ((with_reducible show WhileStep2 _ _ _ _ _ _ (Flow.ret _) _); dsimp only [WhileStep2]) | ((with_reducible show TurnP _ _ _ _ _ _ _ _ _ (Flow.ret _) _); dsimp only [TurnP]) | (k_unfold; (try dsimp only)) | (k_end; first | refine' next_q (by with_reducible assumption) ?_ | refine' ret_q (by with_reducible assumption) ?_ | refine' brk_q (by with_reducible assumption) ?_ | refine' cont_q (by with_reducible assumption) ?_) | (k_end; wrow_close) | walk1 | (dsimp only; walk1) | (leave1; walk_say "STEP leave1"; try dsimp only)) | fail "no step"))
      (rename Fr _ _ _ _ => F2)
      (rename News _ _ _ _ => N2)
      refine' hNeg.use (_ :: _ :: M) P (.mi, t.nt) (by k_asm) F2 (by k_asm) N2 sub0 (by k_asm) rfl ⟨_, _, rfl, hov, hn1⟩ (by ktr_room) (by ktr_units) ?_
      rintro r P3 h3 tk3 F3 N3 hs3 hf3 hnode
      have N4 : News g1 L1 h3 ((ol, listOf vs'.toArray (n1 + 1)) :: (wl, listOf ws'.toArray (n2 + 1)) :: (M ++ P3)) := N3
      clear N3 N2 F2
      have hoo3 : ∀ p ∈ M ++ P3, p.1 ≠ ol := offs_fresh hoo hf3 (.head _)
      have how3 : ∀ p ∈ M ++ P3, p.1 ≠ wl := offs_fresh how hf3 (.tail _ (.head _))
      have hzv' : vs'.toArray.size ≤ sizeLine := by rw [sizeLine_eq, List.size_toArray]; simp only [List.length_append] at hvl; omega
      (repeat' (first | ((fail_if_success (with_reducible (first | refine tW ?_ | refine tI ?_ | refine tF ?_ | refine tC ?_ | refine tX ?_ | refine tR 426 ?_ | refine tR 433 ?_ | refine tR 426 ?_ | refine tR 433 ?_ | refine tR 314 ?_ | refine tR 321 ?_ | refine tR 377 ?_ | refine tR 370 ?_ | refine tR 286 ?_ | refine tR 384 ?_ | refine tR 391 ?_ | refine tR 45 ?_ | refine tR 475 ?_ | refine tR 482 ?_ | refine tR 489 ?_ | refine tR 496 ?_ | refine tR 503 ?_ | refine tR 510 ?_))); first | ((with_reducible show WhileStep2 _ _ _ _ _ _ (Flow.ret _) _); dsimp only [WhileStep2]) | ((with_reducible show TurnP _ _ _ _ _ _ _ _ _ (Flow.ret _) _); dsimp only [TurnP]) | (k_unfold; (try dsimp only)) | (k_end; first | refine' next_q (by with_reducible assumption) ?_ | refine' ret_q (by with_reducible assumption) ?_ | refine' brk_q (by with_reducible assumption) ?_ | refine' cont_q (by with_reducible assumption) ?_) | (k_end; wrow_close) | walk1 | (dsimp only; walk1) | (leave1; walk_say "STEP leave1"; try dsimp only)) | fail "no step"))
      (rename News h₀ _ _ _ => N5)
      rw [List.push_toArray] at N5
      refine hret P3 _ _ _ _ _ _ (.neg t :: S') W' (by assumption) N5 ⟨hs3, fresh_BL hf3⟩ ⟨hb0.mono hs3, (hS'.mono hs3).snoc hnode, hW'.mono hs3, hne, hoo3, how3, ?_⟩ rfl
      simp only [List.length_cons] at hrm ⊢; omega
    · cases hW with
      | @snoc ws' _ v _ hW' hw =>
      cases hS with
      | @snoc vs' _ v2 _ hS' hn1 =>
      cases hS' with
      | @snoc vs2 _ v3 _ hS2 hn2 =>
      refine el12 hw ?_
      rintro aw dw _ _ _ _ _ _ _ _ ov fv ⟨rfl, haw, hdw, hov, hfv⟩
      simp only [Wt.srt] at hdw
      refine el10 (id hov) ?_
      rintro ao do_ _ _ _ _ _ _ _ _ ⟨rfl, hao, hdo⟩
      have hzw := lst60 hwl
      have hzv := lst60 hvl
      have hzv2 : (vs2 ++ [v3]).toArray.toList.length ≤ sizeLine := lst60 (by simp only [List.length_append] at hvl ⊢; omega)
      (repeat' (first | ((fail_if_success (with_reducible (first | refine tW ?_ | refine tI ?_ | refine tF ?_ | refine tC ?_ | refine tX ?_ | refine tR 426 ?_ | refine tR 433 ?_ | refine tR 426 ?_ | refine tR 433 ?_ | refine tR 314 ?_ | refine tR 321 ?_ | refine tR 377 ?_ | refine tR 370 ?_ | refine tR 286 ?_ | refine tR 384 ?_ | refine tR 391 ?_ | refine tR 45 ?_ | refine tR 475 ?_ | refine tR 482 ?_ | refine tR 489 ?_ | refine tR 496 ?_ | refine tR 503 ?_ | refine tR 510 ?_))); first | ((with_reducible show WhileStep2 _ _ _ _ _ _ (Flow.ret _) _); dsimp only [WhileStep2]) | ((with_reducible show TurnP _ _ _ _ _ _ _ _ _ (Flow.ret _) _); dsimp only [TurnP]) | (k_unfold; (try dsimp only)) | (k_end; first | refine' next_q (by with_reducible assumption) ?_ | refine' ret_q (by with_reducible assumption) ?_ | refine' brk_q (by with_reducible assumption) ?_ | refine' cont_q (by with_reducible assumption) ?_) | (k_end; wrow_close) | walk1 | (dsimp only; walk1) | (leave1; walk_say "STEP leave1"; try dsimp only)) | fail "no step"))
      (rename Fr _ _ _ _ => F2)
      (rename News _ _ _ _ => N2)
      refine' hApp.use (_ :: _ :: M) P (x, l.nt, r.nt) (by k_asm) F2 (by k_asm) N2 sub0 (by k_asm) rfl ⟨_, _, _, rfl, hov, hn2, hn1⟩ (by ktr_room) (by ktr_units) ?_
      rintro rr P3 h3 tk3 F3 N3 hs3 hf3 hnode
      have N4 : News g1 L1 h3 ((ol, listOf vs2.toArray (n1 + 1 + 1)) :: (wl, listOf ws'.toArray (n2 + 1)) :: (M ++ P3)) := N3
      clear N3 N2 F2
      have hoo3 : ∀ p ∈ M ++ P3, p.1 ≠ ol := offs_fresh hoo hf3 (.head _)
      have how3 : ∀ p ∈ M ++ P3, p.1 ≠ wl := offs_fresh how hf3 (.tail _ (.head _))
      have hzv' : vs2.toArray.size ≤ sizeLine := by rw [sizeLine_eq, List.size_toArray]; simp only [List.length_append] at hvl; omega
      (repeat' (first | ((fail_if_success (with_reducible (first | refine tW ?_ | refine tI ?_ | refine tF ?_ | refine tC ?_ | refine tX ?_ | refine tR 426 ?_ | refine tR 433 ?_ | refine tR 426 ?_ | refine tR 433 ?_ | refine tR 314 ?_ | refine tR 321 ?_ | refine tR 377 ?_ | refine tR 370 ?_ | refine tR 286 ?_ | refine tR 384 ?_ | refine tR 391 ?_ | refine tR 45 ?_ | refine tR 475 ?_ | refine tR 482 ?_ | refine tR 489 ?_ | refine tR 496 ?_ | refine tR 503 ?_ | refine tR 510 ?_))); first | ((with_reducible show WhileStep2 _ _ _ _ _ _ (Flow.ret _) _); dsimp only [WhileStep2]) | ((with_reducible show TurnP _ _ _ _ _ _ _ _ _ (Flow.ret _) _); dsimp only [TurnP]) | (k_unfold; (try dsimp only)) | (k_end; first | refine' next_q (by with_reducible assumption) ?_ | refine' ret_q (by with_reducible assumption) ?_ | refine' brk_q (by with_reducible assumption) ?_ | refine' cont_q (by with_reducible assumption) ?_) | (k_end; wrow_close) | walk1 | (dsimp only; walk1) | (leave1; walk_say "STEP leave1"; try dsimp only)) | fail "no step"))
      (rename News h₀ _ _ _ => N5)
      rw [List.push_toArray] at N5
      refine hret P3 _ _ _ _ _ _ (.bin x l r :: S') W' (by assumption) N5 ⟨hs3, fresh_BL hf3⟩ ⟨hb0.mono hs3, (hS2.mono hs3).snoc hnode, hW'.mono hs3, hne, hoo3, how3, ?_⟩ rfl
      simp only [List.length_cons] at hrm ⊢; omega)

end
section
theorem binds_spec (w : World) : BindsS w := by
  unfold BindsS Spec
  k_fill
  rintro mean mg mb dp un gd cn cs a ccd cl outer A₀ base h₀ L m M P s vs ⟨f, g⟩ Q E B F X N TT hk hDD1 hd hu hret
  obtain ⟨u, v, rfl, hu1, hv1⟩ := hDD1
  refine el9 hu1 ?_
  clear hu1
  rintro a1 d1 _ _ _ _ _ _ _ ⟨rfl, ha1, hd1⟩
  refine el9 hv1 ?_
  clear hv1
  rintro a2 d2 _ _ _ _ _ _ _ ⟨rfl, ha2, hd2⟩
  dsimp only at ha1 hd1 ha2 hd2 hd hu
  refine wpAny_call ?_
  k_dflt ktr_enter
  w_strict (
    walk_at "norm"
    rename_i g1 L1 h1 FG1 F1 N1 B1 X1 T1
    (replace F1 := fr_lk [(Str.ofString "other", .ref a2), (Str.ofString "one", .ref a1)] F1)
    (dsimp only [lkm] at F1)
    (repeat' (first | ((fail_if_success (with_reducible (first | refine tW ?_ | refine tI ?_ | refine tF ?_ | refine tC ?_ | refine tX ?_ | refine tR 426 ?_ | refine tR 433 ?_ | refine tR 314 ?_ | refine tR 321 ?_ | refine tR 377 ?_ | refine tR 370 ?_ | refine tR 286 ?_ | refine tR 384 ?_ | refine tR 391 ?_ | refine tR 45 ?_ | refine tR 475 ?_ | refine tR 482 ?_ | refine tR 489 ?_ | refine tR 496 ?_ | refine tR 503 ?_ | refine tR 510 ?_))); first | ((with_reducible show WhileStep2 _ _ _ _ _ _ (Flow.ret _) _); dsimp only [WhileStep2]) | ((with_reducible show TurnP _ _ _ _ _ _ _ _ _ (Flow.ret _) _); dsimp only [TurnP]) | (k_unfold; (try dsimp only)) | (k_end; first | refine' next_q (by with_reducible assumption) ?_ | refine' ret_q (by with_reducible assumption) ?_ | refine' brk_q (by with_reducible assumption) ?_ | refine' cont_q (by with_reducible assumption) ?_) | (k_end; wrow_close) | walk1 | (dsimp only; walk1) | (leave1; walk_say "STEP leave1"; try dsimp only)) | fail "no step"))
    · exact hret _ _ _ _ (by assumption) (by assumption) sub0 fr0 (congrArg Value.bool ((decide_eq_true (by assumption)).trans (binds1 (by assumption)).symm))
    · exact hret _ _ _ _ (by assumption) (by assumption) sub0 fr0 (congrArg Value.bool (binds3 (by assumption) (by assumption)).symm)
    · exact hret _ _ _ _ (by assumption) (by assumption) sub0 fr0 (congrArg Value.bool ((beq_false_of_ne (by assumption)).trans (binds2 (by assumption) (by assumption)).symm)))

end
section
theorem settle_spec (w : World) (hCl : ClashS w) (hBi : BindsS w) (hRe : ReduceS w) : SettleS w := by
  unfold SettleS BSpec
  k_fill
  rintro mean mg mb dp un gd cn cs a ccd cl outer A₀ base h₀ L m M P s args f T b ol wl vs0 ws0 n1 n2 S0 W0 Q E B F X N TT hk hst hok hDD1 hd hu hret hrz
  obtain ⟨fv, pl, rfl, hfv⟩ := hDD1
  refine el14 hst.bnd ?_
  rintro ab db _ _ _ _ _ _ _ _ _ _ _ kv ⟨rfl, hab, hdb, hkn⟩
  refine el9 (id hfv) ?_
  rintro af df _ _ _ _ _ _ _ ⟨rfl, haf, hdf⟩
  dsimp only at hd hu
  refine wpAny_call ?_
  k_dflt ktr_enter
  w_strict (
    walk_at "norm"
    rename_i g1 L1 h1 FG1 F1 N1 B1 X1 T1
    (replace F1 := fr_lk [(Str.ofString "place", pl), (Str.ofString "fixity", .ref af), (Str.ofString "self", .ref ab)] F1)
    (dsimp only [lkm] at F1)
    (repeat' (first | ((fail_if_success (with_reducible (first | refine tW ?_ | refine tI ?_ | refine tF ?_ | refine tC ?_ | refine tX ?_ | refine tR 426 ?_ | refine tR 433 ?_ | refine tR 314 ?_ | refine tR 321 ?_ | refine tR 377 ?_ | refine tR 370 ?_ | refine tR 286 ?_ | refine tR 384 ?_ | refine tR 391 ?_ | refine tR 45 ?_ | refine tR 475 ?_ | refine tR 482 ?_ | refine tR 489 ?_ | refine tR 496 ?_ | refine tR 503 ?_ | refine tR 510 ?_))); first | ((with_reducible show WhileStep2 _ _ _ _ _ _ (Flow.ret _) _); dsimp only [WhileStep2]) | ((with_reducible show TurnP _ _ _ _ _ _ _ _ _ (Flow.ret _) _); dsimp only [TurnP]) | (k_unfold; (try dsimp only)) | (k_end; first | refine' next_q (by with_reducible assumption) ?_ | refine' ret_q (by with_reducible assumption) ?_ | refine' brk_q (by with_reducible assumption) ?_ | refine' cont_q (by with_reducible assumption) ?_) | (k_end; wrow_close) | walk1 | (dsimp only; walk1) | (leave1; walk_say "STEP leave1"; try dsimp only)) | fail "no step"))
    (rename Fr _ _ _ _ => F1)
    (rename News _ _ _ _ => N1)
    refine While_inv2 (SJ w T f M P (.ref ab) ol wl vs0 ws0 n1 n2 S0 W0 (fun g => fun y => if y = Str.ofString "going" then some (.bool g) else if y = Str.ofString "place" then some pl else if y = Str.ofString "fixity" then some (Value.ref af) else if y = Str.ofString "self" then some (Value.ref ab) else none)) F1 (nsub N1 sub1) ⟨S0, W0, vs0, ws0, n1, n2, P, _, rfl, rfl, rfl, .refl, hst, hok, fun h => ⟨fun e => ?_, rfl⟩, fun h => ?_⟩ ?_
    · subst e; rw [hst.wts.isEmpty] at h; exact absurd h (by simp)
    · have : W0 = [] := by rw [hst.wts.isEmpty] at h; simpa using h
      rw [this]; exact settle_nil
    · rintro n m₁ nx h₁ tk₁ F₁ N₁ hDD1
      walk_at "norm"
      refine el8 hDD1 ?_
      clear hDD1
      rintro S W vs ws k1 k2 P1 g ⟨rfl, rfl, rfl, hg, hs, hln, hgt, hgf⟩
      clear F1 N1
      cases g
      · (repeat' (first | ((fail_if_success (with_reducible (first | refine tW ?_ | refine tI ?_ | refine tF ?_ | refine tC ?_ | refine tX ?_ | refine tR 426 ?_ | refine tR 433 ?_ | refine tR 314 ?_ | refine tR 321 ?_ | refine tR 377 ?_ | refine tR 370 ?_ | refine tR 286 ?_ | refine tR 384 ?_ | refine tR 391 ?_ | refine tR 45 ?_ | refine tR 475 ?_ | refine tR 482 ?_ | refine tR 489 ?_ | refine tR 496 ?_ | refine tR 503 ?_ | refine tR 510 ?_))); first | ((with_reducible show WhileStep2 _ _ _ _ _ _ (Flow.ret _) _); dsimp only [WhileStep2]) | ((with_reducible show TurnP _ _ _ _ _ _ _ _ _ (Flow.ret _) _); dsimp only [TurnP]) | (k_unfold; (try dsimp only)) | (k_end; first | refine' next_q (by with_reducible assumption) ?_ | refine' ret_q (by with_reducible assumption) ?_ | refine' brk_q (by with_reducible assumption) ?_ | refine' cont_q (by with_reducible assumption) ?_) | (k_end; wrow_close) | walk1 | (dsimp only; walk1) | (leave1; walk_say "STEP leave1"; try dsimp only)) | fail "no step"))
        exact hret P1 _ _ vs ws _ _ S W (by assumption) (by assumption) hg hs (hgf rfl)
      · obtain ⟨hWne, hseq⟩ := hgt rfl
        have hs0 := hs
        obtain ⟨hb, hS, hW, hne, hoo, how, hrm⟩ := hs
        cases hW with
        | nil => exact absurd rfl hWne
        | @snoc ws' W' v wt hW' hw =>
        refine el12 hw ?_
        rintro aw dw _ _ _ _ _ _ _ _ ov fw ⟨rfl, haw, hdw, hov, hfw⟩
        refine el9 (id hfw) ?_
        rintro afw dfw _ _ _ _ _ _ _ ⟨rfl, hafw, hdfw⟩
        have hab1 := hg.sub _ hab
        have hdb1 := hg.sub _ hdb
        (repeat' (first | ((fail_if_success (with_reducible (first | refine tW ?_ | refine tI ?_ | refine tF ?_ | refine tC ?_ | refine tX ?_ | refine tR 426 ?_ | refine tR 433 ?_ | refine tR 314 ?_ | refine tR 321 ?_ | refine tR 377 ?_ | refine tR 370 ?_ | refine tR 286 ?_ | refine tR 384 ?_ | refine tR 391 ?_ | refine tR 45 ?_ | refine tR 475 ?_ | refine tR 482 ?_ | refine tR 489 ?_ | refine tR 496 ?_ | refine tR 503 ?_ | refine tR 510 ?_))); first | ((with_reducible show WhileStep2 _ _ _ _ _ _ (Flow.ret _) _); dsimp only [WhileStep2]) | ((with_reducible show TurnP _ _ _ _ _ _ _ _ _ (Flow.ret _) _); dsimp only [TurnP]) | (k_unfold; (try dsimp only)) | (k_end; first | refine' next_q (by with_reducible assumption) ?_ | refine' ret_q (by with_reducible assumption) ?_ | refine' brk_q (by with_reducible assumption) ?_ | refine' cont_q (by with_reducible assumption) ?_) | (k_end; wrow_close) | walk1 | (dsimp only; walk1) | (leave1; walk_say "STEP leave1"; try dsimp only)) | fail "no step"))
        (rename Fr _ _ _ _ => F2)
        (rename News _ _ _ _ => N2)
        refine' hCl.use (_ :: _ :: M) P1 (wt.fx T, f) (by k_asm) F2 (by k_asm) N2 sub0 (by k_asm) rfl ⟨_, _, _, rfl, hfw, hfv.mono hg.sub⟩ (by ktr_room) (by ktr_units) ?_ ?_
        rotate_left
        · intro e9 h9 G9 tk9 hF9 hR9 hU9 hz9
          ((show wpAny _ _ (leaving _ _) _ _ _); refine' leave_onSN ?Kq9 ?Fq9 ?Rq9 ?Uq9 ?_; (case Rq9 => assumption); (case Kq9 => assumption); (case Fq9 => assumption); (case Uq9 => assumption); intro zh5 zR5 _ zU5)
          exact hrz _ _ _ _ (by assumption) (RaisedSN.less (by assumption) (fun p hp => (List.mem_append.mp hp).elim (fun hp => .tail _ (.tail _ (List.mem_append_left _ hp))) (fun hp => .tail _ (.tail _ (List.mem_append_right _ (hg.sub _ hp)))))) (by assumption) (by dsimp only; rw [hseq]; exact settle_clash hz9)
        rintro r P2 h2 tk2 F3 N3 hs2 hf2 ⟨rfl, hcl⟩
        (try clear N2); (try clear F2); (try clear N₁); (try clear F₁)
        have hgA : Gr (BL ol wl vs (ws' ++ [Value.ref aw]) k1 k2 (M ++ P1)) P1 P2 := ⟨hs2, hf2⟩
        have N4 : News g1 L1 h2 ((ol, listOf vs.toArray k1) :: (wl, listOf (ws' ++ [Value.ref aw]).toArray k2) :: (M ++ P2)) := N3
        have hab2 := hs2 _ hab1
        have hdb2 := hs2 _ hdb1
        have haw2 := hs2 _ haw
        have hdw2 := hs2 _ hdw
        clear N3
        (repeat' (first | ((fail_if_success (with_reducible (first | refine tW ?_ | refine tI ?_ | refine tF ?_ | refine tC ?_ | refine tX ?_ | refine tR 426 ?_ | refine tR 433 ?_ | refine tR 314 ?_ | refine tR 321 ?_ | refine tR 377 ?_ | refine tR 370 ?_ | refine tR 286 ?_ | refine tR 384 ?_ | refine tR 391 ?_ | refine tR 45 ?_ | refine tR 475 ?_ | refine tR 482 ?_ | refine tR 489 ?_ | refine tR 496 ?_ | refine tR 503 ?_ | refine tR 510 ?_))); first | ((with_reducible show WhileStep2 _ _ _ _ _ _ (Flow.ret _) _); dsimp only [WhileStep2]) | ((with_reducible show TurnP _ _ _ _ _ _ _ _ _ (Flow.ret _) _); dsimp only [TurnP]) | (k_unfold; (try dsimp only)) | (k_end; first | refine' next_q (by with_reducible assumption) ?_ | refine' ret_q (by with_reducible assumption) ?_ | refine' brk_q (by with_reducible assumption) ?_ | refine' cont_q (by with_reducible assumption) ?_) | (k_end; wrow_close) | walk1 | (dsimp only; walk1) | (leave1; walk_say "STEP leave1"; try dsimp only)) | fail "no step"))
        (rename Fr _ _ _ _ => F5)
        refine' hBi.use (_ :: _ :: M) P2 (wt.fx T, f) (by k_asm) F5 (by k_asm) N4 sub0 (by k_asm) rfl ⟨_, _, rfl, hfw.mono hs2, (hfv.mono hg.sub).mono hs2⟩ (by ktr_room) (by ktr_units) ?_
        rintro r P3 h3 tk3 F6 N6 hs3 hf3 rfl
        (try clear F5); (try clear N4); (try clear F3)
        have hgB : Gr (BL ol wl vs (ws' ++ [Value.ref aw]) k1 k2 (M ++ P2)) P2 P3 := ⟨hs3, hf3⟩
        have N7 : News g1 L1 h3 ((ol, listOf vs.toArray k1) :: (wl, listOf (ws' ++ [Value.ref aw]).toArray k2) :: (M ++ P3)) := N6
        have hab3 := hs3 _ hab2
        have hdb3 := hs3 _ hdb2
        have hsP3 := (hs0.grow hgA).grow hgB
        have hgC := (hg.thenBL hgA).thenBL hgB
        clear N6
        (repeat' (first | ((fail_if_success (with_reducible (first | refine tW ?_ | refine tI ?_ | refine tF ?_ | refine tC ?_ | refine tX ?_ | refine tR 426 ?_ | refine tR 433 ?_ | refine tR 314 ?_ | refine tR 321 ?_ | refine tR 377 ?_ | refine tR 370 ?_ | refine tR 286 ?_ | refine tR 384 ?_ | refine tR 391 ?_ | refine tR 45 ?_ | refine tR 475 ?_ | refine tR 482 ?_ | refine tR 489 ?_ | refine tR 496 ?_ | refine tR 503 ?_ | refine tR 510 ?_))); first | ((with_reducible show WhileStep2 _ _ _ _ _ _ (Flow.ret _) _); dsimp only [WhileStep2]) | ((with_reducible show TurnP _ _ _ _ _ _ _ _ _ (Flow.ret _) _); dsimp only [TurnP]) | (k_unfold; (try dsimp only)) | (k_end; first | refine' next_q (by with_reducible assumption) ?_ | refine' ret_q (by with_reducible assumption) ?_ | refine' brk_q (by with_reducible assumption) ?_ | refine' cont_q (by with_reducible assumption) ?_) | (k_end; wrow_close) | walk1 | (dsimp only; walk1) | (leave1; walk_say "STEP leave1"; try dsimp only)) | fail "no step"))
        · (rename bindsV _ _ = true => hyes)
          (rename Fr _ _ _ _ => F8)
          (rename News _ _ _ _ => N8)
          refine' hRe.use M P3 () (by k_asm) F8 (by k_asm) N8 sub0 (by k_asm) rfl hsP3 (red_ok hln) ⟨_, rfl⟩ (by ktr_room) (by ktr_units) ?_ ?_
          rotate_left
          · intro e9 h9 G9 tk9 hF9 hR9 hU9 hz9
            ((show wpAny _ _ (leaving _ _) _ _ _); refine' leave_onSN ?Kq10 ?Fq10 ?Rq10 ?Uq10 ?_; (case Rq10 => assumption); (case Kq10 => assumption); (case Fq10 => assumption); (case Uq10 => assumption); intro zh5 zR5 _ zU5)
            exact hrz _ _ _ _ (by assumption) (RaisedSN.less (by assumption) (fun p hp => (List.mem_append.mp hp).elim (fun hp => List.mem_append_left _ hp) (fun hp => List.mem_append_right _ (hgC.sub _ hp)))) (by assumption) (hseq.trans (settle_none hcl hyes hz9))
          rintro P4 h4 tk4 vs4 ws4 k3 k4 S4 W4 F9 N9 hg4 hs4 hrun
          have hlen := step_len hrun hln
          have N10 : News g1 L1 h4 ((ol, listOf vs4.toArray k3) :: (wl, listOf ws4.toArray k4) :: (M ++ P4)) := N9
          have hab4 := hg4.sub _ hab3
          have hdb4 := hg4.sub _ hdb3
          clear N9 N8 F8
          (repeat' (first | ((fail_if_success (with_reducible (first | refine tW ?_ | refine tI ?_ | refine tF ?_ | refine tC ?_ | refine tX ?_ | refine tR 426 ?_ | refine tR 433 ?_ | refine tR 314 ?_ | refine tR 321 ?_ | refine tR 377 ?_ | refine tR 370 ?_ | refine tR 286 ?_ | refine tR 384 ?_ | refine tR 391 ?_ | refine tR 45 ?_ | refine tR 475 ?_ | refine tR 482 ?_ | refine tR 489 ?_ | refine tR 496 ?_ | refine tR 503 ?_ | refine tR 510 ?_))); first | ((with_reducible show WhileStep2 _ _ _ _ _ _ (Flow.ret _) _); dsimp only [WhileStep2]) | ((with_reducible show TurnP _ _ _ _ _ _ _ _ _ (Flow.ret _) _); dsimp only [TurnP]) | (k_unfold; (try dsimp only)) | (k_end; first | refine' next_q (by with_reducible assumption) ?_ | refine' ret_q (by with_reducible assumption) ?_ | refine' brk_q (by with_reducible assumption) ?_ | refine' cont_q (by with_reducible assumption) ?_) | (k_end; wrow_close) | walk1 | (dsimp only; walk1) | (leave1; walk_say "STEP leave1"; try dsimp only)) | fail "no step"))
          (rename Fr _ _ _ _ => F10)
          rw [set_twice] at F10
          refine ex5 _ _ _ (BL ol wl vs4 ws4 k3 k4 (M ++ P4)) _ ⟨rfl, F10, nsub (by assumption) sub1, ?_, ex8 S4 W4 vs4 ws4 k3 k4 P4 (!ws4.isEmpty) ⟨rfl, set_twice _ _ _ _, rfl, hgC.thenBL hg4, hs4, hlen.1, fun h => ⟨fun e => ?_, hseq.trans (settle_step hcl hyes hrun)⟩, fun h => ?_⟩⟩
          · have h2 := hlen.2
            simp only [List.length_cons] at h2 ⊢
            split <;> simp <;> omega
          · subst e; rw [hs4.wts.isEmpty] at h; exact absurd h (by simp)
          · have h5 : W4 = [] := by rw [hs4.wts.isEmpty] at h; simpa using h
            subst h5
            exact (hseq.trans (settle_step hcl hyes hrun)).trans settle_nil
        · (rename bindsV _ _ = false => hno)
          (rename Fr _ _ _ _ => F10)
          dsimp only at F10 hno
          rw [hno, set_twice] at F10
          exact ex5 _ _ _ _ _ ⟨rfl, F10, by assumption, by simp, ex8 S (wt :: W') vs _ _ _ P3 false ⟨rfl, rfl, rfl, hgC, hsP3, hln, fun h => absurd h (by simp), fun _ => hseq.trans (settle_stop hcl hno)⟩⟩)

end
section
theorem wait_spec (w : World) : WaitS w := by
  unfold WaitS BSpec
  k_fill
  rintro mean mg mb dp un gd cn cs a ccd cl outer A₀ base h₀ L m M P s args wt T b ol wl vs ws n1 n2 S W Q E B F X N TT hk hst hok hDD1 hd hu hret hrz
  refine el3 hDD1 ?_
  clear hDD1
  rintro ov fv u ⟨rfl, hov, hfv⟩
  refine el14 hst.bnd ?_
  rintro ab db _ _ _ _ _ _ _ _ _ _ _ kv ⟨rfl, hab, hdb, hkn⟩
  have hoo := hst.oo
  have how := hst.ow
  have hne := hst.ne
  dsimp only at hd hu hok
  refine wpAny_call ?_
  k_dflt ktr_enter
  w_strict (
    walk_at "norm"
    rename_i g1 L1 h1 FG1 F1 N1 B1 X1 T1
    (replace F1 := fr_lk [(Str.ofString "sort", .int wt.srt u), (Str.ofString "fixity", fv), (Str.ofString "op", ov), (Str.ofString "self", .ref ab)] F1)
    (dsimp only [lkm] at F1)
    have hwz : ws.toArray.size ≤ sizeLine := by rw [sizeLine_eq, List.size_toArray, hst.wts.length]; omega
    (repeat' (first | ((fail_if_success (with_reducible (first | refine tW ?_ | refine tI ?_ | refine tF ?_ | refine tC ?_ | refine tX ?_ | refine tR 426 ?_ | refine tR 433 ?_ | refine tR 314 ?_ | refine tR 321 ?_ | refine tR 377 ?_ | refine tR 370 ?_ | refine tR 286 ?_ | refine tR 384 ?_ | refine tR 391 ?_ | refine tR 45 ?_ | refine tR 475 ?_ | refine tR 482 ?_ | refine tR 489 ?_ | refine tR 496 ?_ | refine tR 503 ?_ | refine tR 510 ?_))); first | ((with_reducible show WhileStep2 _ _ _ _ _ _ (Flow.ret _) _); dsimp only [WhileStep2]) | ((with_reducible show TurnP _ _ _ _ _ _ _ _ _ (Flow.ret _) _); dsimp only [TurnP]) | (k_unfold; (try dsimp only)) | (k_end; first | refine' next_q (by with_reducible assumption) ?_ | refine' ret_q (by with_reducible assumption) ?_ | refine' brk_q (by with_reducible assumption) ?_ | refine' cont_q (by with_reducible assumption) ?_) | (k_end; wrow_close) | walk1 | (dsimp only; walk1) | (leave1; walk_say "STEP leave1"; try dsimp only)) | fail "no step"))
    (rename (_ ∧ _ ∧ AllLt _ _) => l1)
    (rename ((_ : Addr) < _) => l2)
    (rename News h₀ _ _ _ => N2)
    rw [List.push_toArray] at N2
    obtain ⟨P', N3, hg, hs⟩ := wait_fin (n2 := n2) hst N2 l1 l2 hov hfv hok
    exact hret P' _ _ vs _ _ _ S (wt :: W) (by assumption) N3 hg hs rfl)
theorem take_minus_spec (w : World) (hWa : WaitS w) : TakeMinusS w := by
  unfold TakeMinusS BSpec
  k_fill
  rintro mean mg mb dp un gd cn cs a ccd cl outer A₀ base h₀ L m M P s args ⟨⟩ T b ol wl vs ws n1 n2 S W Q E B F X N TT hk hst hok hDD1 hd hu hret hrz
  obtain ⟨ov, rfl, hov⟩ := hDD1
  refine el14 hst.bnd ?_
  rintro ab db _ _ _ _ _ _ _ _ _ _ _ kv ⟨rfl, hab, hdb, hkn⟩
  refine el10 (id hov) ?_
  rintro ao do_ _ _ _ _ _ _ _ _ ⟨rfl, hao, hdo⟩
  have hoo := hst.oo
  have how := hst.ow
  have hne := hst.ne
  dsimp only at hd hu hok
  refine wpAny_call ?_
  k_dflt ktr_enter
  w_strict (
    walk_at "norm"
    rename_i g1 L1 h1 FG1 F1 N1 B1 X1 T1
    (replace F1 := fr_lk [(Str.ofString "op", .ref ao), (Str.ofString "self", .ref ab)] F1)
    (dsimp only [lkm] at F1)
    cases hW : W with
    | nil =>
      subst hW
      have : ws = [] := by cases hst.wts; rfl
      subst this
      · (repeat' (first | ((fail_if_success (with_reducible (first | refine tW ?_ | refine tI ?_ | refine tF ?_ | refine tC ?_ | refine tX ?_ | refine tR 342 ?_ | refine tR 426 ?_ | refine tR 433 ?_ | refine tR 314 ?_ | refine tR 321 ?_ | refine tR 377 ?_ | refine tR 370 ?_ | refine tR 286 ?_ | refine tR 384 ?_ | refine tR 391 ?_ | refine tR 45 ?_ | refine tR 475 ?_ | refine tR 482 ?_ | refine tR 489 ?_ | refine tR 496 ?_ | refine tR 503 ?_ | refine tR 510 ?_))); first | ((with_reducible show WhileStep2 _ _ _ _ _ _ (Flow.ret _) _); dsimp only [WhileStep2]) | ((with_reducible show TurnP _ _ _ _ _ _ _ _ _ (Flow.ret _) _); dsimp only [TurnP]) | (k_unfold; (try dsimp only)) | (k_end; first | refine' next_q (by with_reducible assumption) ?_ | refine' ret_q (by with_reducible assumption) ?_ | refine' brk_q (by with_reducible assumption) ?_ | refine' cont_q (by with_reducible assumption) ?_) | (k_end; wrow_close) | walk1 | (dsimp only; walk1) | (leave1; walk_say "STEP leave1"; try dsimp only)) | fail "no step"))
        (rename Fr _ _ _ _ => F2)
        (rename News _ _ _ _ => N2)
        (rename (_ ∧ _ ∧ AllLt _ _) => l1)
        (rename ((_ : Addr) < _) => l2)
        obtain ⟨hs2, hg2, hf2⟩ := fix_put (f := ⟨.l, 6⟩) (n1 := n1) (n2 := n2) hst N2 (.tail _ (.tail _ (.head _))) l1 l2 rfl rfl
        refine' hWa.use M (_ :: _ :: P) .neg (by k_asm) F2 (by k_asm) N2 bl_sub (by k_asm) rfl hs2 hok ⟨_, _, _, rfl, hov.mono (fun p hp => .tail _ (.tail _ hp)), hf2⟩ (by ktr_room) (by ktr_units) ?_ ?_
        rotate_left
        · intro e9 h9 G9 tk9 hF9 hR9 hU9 hz9
          exact absurd hz9 (by simp)
        rintro P4 h4 tk4 vs4 ws4 k3 k4 S4 W4 F4 N4 hg4 hs4 hrun
        obtain ⟨rfl, rfl⟩ := Prod.mk.inj (Option.some.inj hrun)
        (repeat' (first | ((fail_if_success (with_reducible (first | refine tW ?_ | refine tI ?_ | refine tF ?_ | refine tC ?_ | refine tX ?_ | refine tR 342 ?_ | refine tR 426 ?_ | refine tR 433 ?_ | refine tR 314 ?_ | refine tR 321 ?_ | refine tR 377 ?_ | refine tR 370 ?_ | refine tR 286 ?_ | refine tR 384 ?_ | refine tR 391 ?_ | refine tR 45 ?_ | refine tR 475 ?_ | refine tR 482 ?_ | refine tR 489 ?_ | refine tR 496 ?_ | refine tR 503 ?_ | refine tR 510 ?_))); first | ((with_reducible show WhileStep2 _ _ _ _ _ _ (Flow.ret _) _); dsimp only [WhileStep2]) | ((with_reducible show TurnP _ _ _ _ _ _ _ _ _ (Flow.ret _) _); dsimp only [TurnP]) | (k_unfold; (try dsimp only)) | (k_end; first | refine' next_q (by with_reducible assumption) ?_ | refine' ret_q (by with_reducible assumption) ?_ | refine' brk_q (by with_reducible assumption) ?_ | refine' cont_q (by with_reducible assumption) ?_) | (k_end; wrow_close) | walk1 | (dsimp only; walk1) | (leave1; walk_say "STEP leave1"; try dsimp only)) | fail "no step"))
        exact hret P4 _ _ vs4 ws4 _ _ _ _ (by assumption) (by assumption) (hg2.thenBL hg4) hs4 rfl
    | cons wt W' =>
      subst hW
      have hwts := hst.wts
      generalize hws : ws = ws9 at hwts
      cases hwts with
      | @snoc ws' _ v _ hW' hw =>
      subst hws
      refine el12 hw ?_
      rintro aw dw _ _ _ _ _ _ _ _ ov2 fw ⟨rfl, haw, hdw, hov2, hfw⟩
      refine el9 (id hfw) ?_
      rintro afw dfw _ _ _ _ _ _ _ ⟨rfl, hafw, hdfw⟩
      (repeat' (first | ((fail_if_success (with_reducible (first | refine tW ?_ | refine tI ?_ | refine tF ?_ | refine tC ?_ | refine tX ?_ | refine tR 342 ?_ | refine tR 426 ?_ | refine tR 433 ?_ | refine tR 314 ?_ | refine tR 321 ?_ | refine tR 377 ?_ | refine tR 370 ?_ | refine tR 286 ?_ | refine tR 384 ?_ | refine tR 391 ?_ | refine tR 45 ?_ | refine tR 475 ?_ | refine tR 482 ?_ | refine tR 489 ?_ | refine tR 496 ?_ | refine tR 503 ?_ | refine tR 510 ?_))); first | ((with_reducible show WhileStep2 _ _ _ _ _ _ (Flow.ret _) _); dsimp only [WhileStep2]) | ((with_reducible show TurnP _ _ _ _ _ _ _ _ _ (Flow.ret _) _); dsimp only [TurnP]) | (k_unfold; (try dsimp only)) | (k_end; first | refine' next_q (by with_reducible assumption) ?_ | refine' ret_q (by with_reducible assumption) ?_ | refine' brk_q (by with_reducible assumption) ?_ | refine' cont_q (by with_reducible assumption) ?_) | (k_end; wrow_close) | walk1 | (dsimp only; walk1) | (leave1; walk_say "STEP leave1"; try dsimp only)) | fail "no step"))
      · ((k_here; refine' raise_own (by rfl) ?_; k_whole); (repeat' (first | ((fail_if_success (with_reducible (first | refine tW ?_ | refine tI ?_ | refine tF ?_ | refine tC ?_ | refine tX ?_ | refine tR 342 ?_ | refine tR 426 ?_ | refine tR 433 ?_ | refine tR 314 ?_ | refine tR 321 ?_ | refine tR 377 ?_ | refine tR 370 ?_ | refine tR 286 ?_ | refine tR 384 ?_ | refine tR 391 ?_ | refine tR 45 ?_ | refine tR 475 ?_ | refine tR 482 ?_ | refine tR 489 ?_ | refine tR 496 ?_ | refine tR 503 ?_ | refine tR 510 ?_))); first | ((with_reducible show WhileStep2 _ _ _ _ _ _ (Flow.ret _) _); dsimp only [WhileStep2]) | ((with_reducible show TurnP _ _ _ _ _ _ _ _ _ (Flow.ret _) _); dsimp only [TurnP]) | (k_unfold; (try dsimp only)) | (k_end; first | refine' next_q (by with_reducible assumption) ?_ | refine' ret_q (by with_reducible assumption) ?_ | refine' brk_q (by with_reducible assumption) ?_ | refine' cont_q (by with_reducible assumption) ?_) | (k_end; wrow_close) | walk1 | (dsimp only; walk1) | (leave1; walk_say "STEP leave1"; try dsimp only)) | fail "no step")); (refine' fix_call (cl := []) ?Bq11 ?Fq11 ?Xq11 ?Nq11 ?Tq11 rfl ?dq11 ?_; (case Bq11 => assumption); (case Fq11 => assumption); (case Xq11 => assumption); (case Nq11 => assumption); (case Tq11 => assumption); (case dq11 => ktr_room); intro zh3 ztk3 ze3 za3 zd3 zF3 zN3 zl3; refine' ⟨ze3, za3, zd3, rfl, ⟨_, _, _, _, by assumption, zF3, rfl⟩, (zN3 _ (.head _)).1, ?_⟩; (show wpAny _ _ (leaving _ _) _ _ _); refine' leave_ownS ?Kq11 zF3 zN3 (fun p hp => Nat.ne_of_lt (zl3 p hp)) ?_; (case Kq11 => assumption); intro zh4 zR4 zU4))
        exact hrz _ _ _ _ (by assumption) (RaisedSN.less (by assumption) (fun p hp => .tail _ (.tail _ (.tail _ (.tail _ (.tail _ hp)))))) (by assumption) (minus_none (by assumption))
      · (rename Fr _ _ _ _ => F2)
        (rename News _ _ _ _ => N2)
        (rename (_ ∧ _ ∧ AllLt _ _) => l1)
        (rename ((_ : Addr) < _) => l2)
        obtain ⟨hs2, hg2, hf2⟩ := fix_put (f := ⟨.l, 6⟩) (n1 := n1) (n2 := n2) hst N2 (.tail _ (.tail _ (.head _))) l1 l2 rfl rfl
        refine' hWa.use M (_ :: _ :: P) .neg (by k_asm) F2 (by k_asm) N2 bl_sub (by k_asm) rfl hs2 hok ⟨_, _, _, rfl, hov.mono (fun p hp => .tail _ (.tail _ hp)), hf2⟩ (by ktr_room) (by ktr_units) ?_ ?_
        rotate_left
        · intro e9 h9 G9 tk9 hF9 hR9 hU9 hz9
          exact absurd hz9 (by simp)
        rintro P4 h4 tk4 vs4 ws4 k3 k4 S4 W4 F4 N4 hg4 hs4 hrun
        obtain ⟨rfl, rfl⟩ := Prod.mk.inj (Option.some.inj hrun)
        (repeat' (first | ((fail_if_success (with_reducible (first | refine tW ?_ | refine tI ?_ | refine tF ?_ | refine tC ?_ | refine tX ?_ | refine tR 342 ?_ | refine tR 426 ?_ | refine tR 433 ?_ | refine tR 314 ?_ | refine tR 321 ?_ | refine tR 377 ?_ | refine tR 370 ?_ | refine tR 286 ?_ | refine tR 384 ?_ | refine tR 391 ?_ | refine tR 45 ?_ | refine tR 475 ?_ | refine tR 482 ?_ | refine tR 489 ?_ | refine tR 496 ?_ | refine tR 503 ?_ | refine tR 510 ?_))); first | ((with_reducible show WhileStep2 _ _ _ _ _ _ (Flow.ret _) _); dsimp only [WhileStep2]) | ((with_reducible show TurnP _ _ _ _ _ _ _ _ _ (Flow.ret _) _); dsimp only [TurnP]) | (k_unfold; (try dsimp only)) | (k_end; first | refine' next_q (by with_reducible assumption) ?_ | refine' ret_q (by with_reducible assumption) ?_ | refine' brk_q (by with_reducible assumption) ?_ | refine' cont_q (by with_reducible assumption) ?_) | (k_end; wrow_close) | walk1 | (dsimp only; walk1) | (leave1; walk_say "STEP leave1"; try dsimp only)) | fail "no step"))
        exact hret P4 _ _ vs4 ws4 _ _ _ _ (by assumption) (by assumption) (hg2.thenBL hg4) hs4 (minus_some (by assumption)))

end
section
theorem take_oper_spec (w : World) (hFx : FixityInS w) (hSe : SettleS w) (hWa : WaitS w) : TakeOperS w := by
  unfold TakeOperS BSpec
  k_fill
  rintro mean mg mb dp un gd cn cs a ccd cl outer A₀ base h₀ L m M P s args x T b ol wl vs ws n1 n2 S W Q E B F X N TT hk hst hok hDD1 hd hu hret hrz
  obtain ⟨ov, rfl, hov, hx⟩ := hDD1
  refine el14 hst.bnd ?_
  rintro ab db _ _ _ _ _ _ _ _ _ _ _ kv ⟨rfl, hab, hdb, hkn⟩
  refine el3 (id hkn) ?_
  rintro dk ok kvs ⟨rfl, hdk, -⟩
  refine el10 (id hov) ?_
  rintro ao do_ _ _ _ _ _ _ _ _ ⟨rfl, hao, hdo⟩
  dsimp only at hd hu hok
  refine wpAny_call ?_
  k_dflt ktr_enter
  w_strict (
    walk_at "norm"
    rename_i g1 L1 h1 FG1 F1 N1 B1 X1 T1
    (replace F1 := fr_lk [(Str.ofString "op", .ref ao), (Str.ofString "self", .ref ab)] F1)
    (dsimp only [lkm] at F1)
    (repeat' (first | ((fail_if_success (with_reducible (first | refine tW ?_ | refine tI ?_ | refine tF ?_ | refine tC ?_ | refine tX ?_ | refine tR 342 ?_ | refine tR 426 ?_ | refine tR 433 ?_ | refine tR 314 ?_ | refine tR 321 ?_ | refine tR 377 ?_ | refine tR 370 ?_ | refine tR 286 ?_ | refine tR 384 ?_ | refine tR 391 ?_ | refine tR 45 ?_ | refine tR 475 ?_ | refine tR 482 ?_ | refine tR 489 ?_ | refine tR 496 ?_ | refine tR 503 ?_ | refine tR 510 ?_))); first | ((with_reducible show WhileStep2 _ _ _ _ _ _ (Flow.ret _) _); dsimp only [WhileStep2]) | ((with_reducible show TurnP _ _ _ _ _ _ _ _ _ (Flow.ret _) _); dsimp only [TurnP]) | (k_unfold; (try dsimp only)) | (k_end; first | refine' next_q (by with_reducible assumption) ?_ | refine' ret_q (by with_reducible assumption) ?_ | refine' brk_q (by with_reducible assumption) ?_ | refine' cont_q (by with_reducible assumption) ?_) | (k_end; wrow_close) | walk1 | (dsimp only; walk1) | (leave1; walk_say "STEP leave1"; try dsimp only)) | fail "no step"))
    (rename Fr _ _ _ _ => F2)
    (rename News _ _ _ _ => N2)
    refine' hFx.use (_ :: _ :: M) P (T, x) (by k_asm) F2 (by k_asm) N2 sub0 (by k_asm) rfl ⟨_, _, rfl, hkn, hx⟩ (by ktr_room) (by ktr_units) ?_
    rintro fv P3 h3 tk3 F3 N3 hs3 hf3 hfix
    have hgA : Gr (BL ol wl vs ws n1 n2 (M ++ P)) P P3 := ⟨hs3, hf3⟩
    have N4 : News g1 L1 h3 ((ol, listOf vs.toArray n1) :: (wl, listOf ws.toArray n2) :: (M ++ P3)) := N3
    have hst3 := hst.grow hgA
    have hab3 := hs3 _ hab
    have hdb3 := hs3 _ hdb
    have hao3 := hs3 _ hao
    have hdo3 := hs3 _ hdo
    refine el9 (id hfix) ?_
    rintro af df _ _ _ _ _ _ _ ⟨rfl, haf, hdf⟩
    (try clear N3); (try clear N2); (try clear F2); (try clear N1)
    (repeat' (first | ((fail_if_success (with_reducible (first | refine tW ?_ | refine tI ?_ | refine tF ?_ | refine tC ?_ | refine tX ?_ | refine tR 342 ?_ | refine tR 426 ?_ | refine tR 433 ?_ | refine tR 314 ?_ | refine tR 321 ?_ | refine tR 377 ?_ | refine tR 370 ?_ | refine tR 286 ?_ | refine tR 384 ?_ | refine tR 391 ?_ | refine tR 45 ?_ | refine tR 475 ?_ | refine tR 482 ?_ | refine tR 489 ?_ | refine tR 496 ?_ | refine tR 503 ?_ | refine tR 510 ?_))); first | ((with_reducible show WhileStep2 _ _ _ _ _ _ (Flow.ret _) _); dsimp only [WhileStep2]) | ((with_reducible show TurnP _ _ _ _ _ _ _ _ _ (Flow.ret _) _); dsimp only [TurnP]) | (k_unfold; (try dsimp only)) | (k_end; first | refine' next_q (by with_reducible assumption) ?_ | refine' ret_q (by with_reducible assumption) ?_ | refine' brk_q (by with_reducible assumption) ?_ | refine' cont_q (by with_reducible assumption) ?_) | (k_end; wrow_close) | walk1 | (dsimp only; walk1) | (leave1; walk_say "STEP leave1"; try dsimp only)) | fail "no step"))
    (rename Fr _ _ _ _ => F5)
    (rename News _ _ _ _ => N4)
    refine' hSe.use M P3 (T.get x) (by k_asm) F5 (by k_asm) N4 sub0 (by k_asm) rfl hst3 hok.1 ⟨_, _, rfl, hfix⟩ (by ktr_room) (by ktr_units) ?_ ?_
    rotate_left
    · intro e9 h9 G9 tk9 hF9 hR9 hU9 hz9
      ((show wpAny _ _ (leaving _ _) _ _ _); refine' leave_onSN ?Kq12 ?Fq12 ?Rq12 ?Uq12 ?_; (case Rq12 => assumption); (case Kq12 => assumption); (case Fq12 => assumption); (case Uq12 => assumption); intro zh5 zR5 _ zU5)
      exact hrz _ _ _ _ (by assumption) (RaisedSN.less (by assumption) (fun p hp => (List.mem_append.mp hp).elim (fun hp => List.mem_append_left _ hp) (fun hp => List.mem_append_right _ (hgA.sub _ hp)))) (by assumption) (oper_none hz9)
    rintro P6 h6 tk6 vs6 ws6 k6 k7 S6 W6 F6 N6 hg6 hst6 hrun
    have N7 : News g1 L1 h6 ((ol, listOf vs6.toArray k6) :: (wl, listOf ws6.toArray k7) :: (M ++ P6)) := N6
    have hab6 := hg6.sub _ hab3
    have hdb6 := hg6.sub _ hdb3
    have hao6 := hg6.sub _ hao3
    have hdo6 := hg6.sub _ hdo3
    have hsl := settle_len hrun hok.1
    (try clear N6); (try clear N4); (try clear F5)
    (repeat' (first | ((fail_if_success (with_reducible (first | refine tW ?_ | refine tI ?_ | refine tF ?_ | refine tC ?_ | refine tX ?_ | refine tR 342 ?_ | refine tR 426 ?_ | refine tR 433 ?_ | refine tR 314 ?_ | refine tR 321 ?_ | refine tR 377 ?_ | refine tR 370 ?_ | refine tR 286 ?_ | refine tR 384 ?_ | refine tR 391 ?_ | refine tR 45 ?_ | refine tR 475 ?_ | refine tR 482 ?_ | refine tR 489 ?_ | refine tR 496 ?_ | refine tR 503 ?_ | refine tR 510 ?_))); first | ((with_reducible show WhileStep2 _ _ _ _ _ _ (Flow.ret _) _); dsimp only [WhileStep2]) | ((with_reducible show TurnP _ _ _ _ _ _ _ _ _ (Flow.ret _) _); dsimp only [TurnP]) | (k_unfold; (try dsimp only)) | (k_end; first | refine' next_q (by with_reducible assumption) ?_ | refine' ret_q (by with_reducible assumption) ?_ | refine' brk_q (by with_reducible assumption) ?_ | refine' cont_q (by with_reducible assumption) ?_) | (k_end; wrow_close) | walk1 | (dsimp only; walk1) | (leave1; walk_say "STEP leave1"; try dsimp only)) | fail "no step"))
    (rename Fr _ _ _ _ => F8)
    (rename News _ _ _ _ => N7)
    refine' hWa.use M P6 (.bin x) (by k_asm) F8 (by k_asm) N7 sub0 (by k_asm) rfl hst6 (Nat.le_trans hsl.2 hok.2) ⟨_, _, _, rfl, (hov.mono hgA.sub).mono hg6.sub, hfix.mono hg6.sub⟩ (by ktr_room) (by ktr_units) ?_ ?_
    rotate_left
    · intro e9 h9 G9 tk9 hF9 hR9 hU9 hz9
      exact absurd hz9 (by simp)
    rintro P9 h9 tk9 vs9 ws9 k8 k9 S9 W9 F9 N9 hg9 hst9 hrun9
    obtain ⟨rfl, rfl⟩ := Prod.mk.inj (Option.some.inj hrun9)
    (repeat' (first | ((fail_if_success (with_reducible (first | refine tW ?_ | refine tI ?_ | refine tF ?_ | refine tC ?_ | refine tX ?_ | refine tR 342 ?_ | refine tR 426 ?_ | refine tR 433 ?_ | refine tR 314 ?_ | refine tR 321 ?_ | refine tR 377 ?_ | refine tR 370 ?_ | refine tR 286 ?_ | refine tR 384 ?_ | refine tR 391 ?_ | refine tR 45 ?_ | refine tR 475 ?_ | refine tR 482 ?_ | refine tR 489 ?_ | refine tR 496 ?_ | refine tR 503 ?_ | refine tR 510 ?_))); first | ((with_reducible show WhileStep2 _ _ _ _ _ _ (Flow.ret _) _); dsimp only [WhileStep2]) | ((with_reducible show TurnP _ _ _ _ _ _ _ _ _ (Flow.ret _) _); dsimp only [TurnP]) | (k_unfold; (try dsimp only)) | (k_end; first | refine' next_q (by with_reducible assumption) ?_ | refine' ret_q (by with_reducible assumption) ?_ | refine' brk_q (by with_reducible assumption) ?_ | refine' cont_q (by with_reducible assumption) ?_) | (k_end; wrow_close) | walk1 | (dsimp only; walk1) | (leave1; walk_say "STEP leave1"; try dsimp only)) | fail "no step"))
    exact hret P9 _ _ vs9 ws9 _ _ _ _ (by assumption) (by assumption) ((hgA.thenBL hg6).thenBL hg9) hst9 (oper_some hrun))
theorem open_spec (w : World) (hFx : FixityInS w) (hWa : WaitS w) : OpenS w := by
  unfold OpenS BSpec
  k_fill
  rintro mean mg mb dp un gd cn cs a ccd cl outer A₀ base h₀ L m M P s args x T b ol wl vs ws n1 n2 S W Q E B F X N TT hk hst hok hDD1 hd hu hret hrz
  obtain ⟨ov, rfl, hov, hx⟩ := hDD1
  refine el14 hst.bnd ?_
  rintro ab db _ _ _ _ _ _ _ _ _ _ _ kv ⟨rfl, hab, hdb, hkn⟩
  refine el3 (id hkn) ?_
  rintro dk ok kvs ⟨rfl, hdk, -⟩
  refine el10 (id hov) ?_
  rintro ao do_ _ _ _ _ _ _ _ _ ⟨rfl, hao, hdo⟩
  dsimp only at hd hu hok
  refine wpAny_call ?_
  k_dflt ktr_enter
  w_strict (
    walk_at "norm"
    rename_i g1 L1 h1 FG1 F1 N1 B1 X1 T1
    (replace F1 := fr_lk [(Str.ofString "op", .ref ao), (Str.ofString "self", .ref ab)] F1)
    (dsimp only [lkm] at F1)
    (repeat' (first | ((fail_if_success (with_reducible (first | refine tW ?_ | refine tI ?_ | refine tF ?_ | refine tC ?_ | refine tX ?_ | refine tR 342 ?_ | refine tR 426 ?_ | refine tR 433 ?_ | refine tR 314 ?_ | refine tR 321 ?_ | refine tR 377 ?_ | refine tR 370 ?_ | refine tR 286 ?_ | refine tR 384 ?_ | refine tR 391 ?_ | refine tR 45 ?_ | refine tR 475 ?_ | refine tR 482 ?_ | refine tR 489 ?_ | refine tR 496 ?_ | refine tR 503 ?_ | refine tR 510 ?_))); first | ((with_reducible show WhileStep2 _ _ _ _ _ _ (Flow.ret _) _); dsimp only [WhileStep2]) | ((with_reducible show TurnP _ _ _ _ _ _ _ _ _ (Flow.ret _) _); dsimp only [TurnP]) | (k_unfold; (try dsimp only)) | (k_end; first | refine' next_q (by with_reducible assumption) ?_ | refine' ret_q (by with_reducible assumption) ?_ | refine' brk_q (by with_reducible assumption) ?_ | refine' cont_q (by with_reducible assumption) ?_) | (k_end; wrow_close) | walk1 | (dsimp only; walk1) | (leave1; walk_say "STEP leave1"; try dsimp only)) | fail "no step"))
    (rename Fr _ _ _ _ => F2)
    (rename News _ _ _ _ => N2)
    refine' hFx.use (_ :: _ :: M) P (T, x) (by k_asm) F2 (by k_asm) N2 sub0 (by k_asm) rfl ⟨_, _, rfl, hkn, hx⟩ (by ktr_room) (by ktr_units) ?_
    rintro fv P3 h3 tk3 F3 N3 hs3 hf3 hfix
    have hgA : Gr (BL ol wl vs ws n1 n2 (M ++ P)) P P3 := ⟨hs3, hf3⟩
    have N4 : News g1 L1 h3 ((ol, listOf vs.toArray n1) :: (wl, listOf ws.toArray n2) :: (M ++ P3)) := N3
    have hst3 := hst.grow hgA
    have hab3 := hs3 _ hab
    have hdb3 := hs3 _ hdb
    refine el9 (id hfix) ?_
    rintro af df _ _ _ _ _ _ _ ⟨rfl, haf, hdf⟩
    (try clear N3); (try clear N2); (try clear F2); (try clear N1)
    (repeat' (first | ((fail_if_success (with_reducible (first | refine tW ?_ | refine tI ?_ | refine tF ?_ | refine tC ?_ | refine tX ?_ | refine tR 342 ?_ | refine tR 426 ?_ | refine tR 433 ?_ | refine tR 314 ?_ | refine tR 321 ?_ | refine tR 377 ?_ | refine tR 370 ?_ | refine tR 286 ?_ | refine tR 384 ?_ | refine tR 391 ?_ | refine tR 45 ?_ | refine tR 475 ?_ | refine tR 482 ?_ | refine tR 489 ?_ | refine tR 496 ?_ | refine tR 503 ?_ | refine tR 510 ?_))); first | ((with_reducible show WhileStep2 _ _ _ _ _ _ (Flow.ret _) _); dsimp only [WhileStep2]) | ((with_reducible show TurnP _ _ _ _ _ _ _ _ _ (Flow.ret _) _); dsimp only [TurnP]) | (k_unfold; (try dsimp only)) | (k_end; first | refine' next_q (by with_reducible assumption) ?_ | refine' ret_q (by with_reducible assumption) ?_ | refine' brk_q (by with_reducible assumption) ?_ | refine' cont_q (by with_reducible assumption) ?_) | (k_end; wrow_close) | walk1 | (dsimp only; walk1) | (leave1; walk_say "STEP leave1"; try dsimp only)) | fail "no step"))
    (rename Fr _ _ _ _ => F8)
    (rename News _ _ _ _ => N4)
    refine' hWa.use M P3 (.opn x) (by k_asm) F8 (by k_asm) N4 sub0 (by k_asm) rfl hst3 hok ⟨_, _, _, rfl, hov.mono hgA.sub, hfix⟩ (by ktr_room) (by ktr_units) ?_ ?_
    rotate_left
    · intro e9 h9 G9 tk9 hF9 hR9 hU9 hz9
      exact absurd hz9 (by simp)
    rintro P9 h9 tk9 vs9 ws9 k8 k9 S9 W9 F9 N9 hg9 hst9 hrun9
    obtain ⟨rfl, rfl⟩ := Prod.mk.inj (Option.some.inj hrun9)
    (repeat' (first | ((fail_if_success (with_reducible (first | refine tW ?_ | refine tI ?_ | refine tF ?_ | refine tC ?_ | refine tX ?_ | refine tR 342 ?_ | refine tR 426 ?_ | refine tR 433 ?_ | refine tR 314 ?_ | refine tR 321 ?_ | refine tR 377 ?_ | refine tR 370 ?_ | refine tR 286 ?_ | refine tR 384 ?_ | refine tR 391 ?_ | refine tR 45 ?_ | refine tR 475 ?_ | refine tR 482 ?_ | refine tR 489 ?_ | refine tR 496 ?_ | refine tR 503 ?_ | refine tR 510 ?_))); first | ((with_reducible show WhileStep2 _ _ _ _ _ _ (Flow.ret _) _); dsimp only [WhileStep2]) | ((with_reducible show TurnP _ _ _ _ _ _ _ _ _ (Flow.ret _) _); dsimp only [TurnP]) | (k_unfold; (try dsimp only)) | (k_end; first | refine' next_q (by with_reducible assumption) ?_ | refine' ret_q (by with_reducible assumption) ?_ | refine' brk_q (by with_reducible assumption) ?_ | refine' cont_q (by with_reducible assumption) ?_) | (k_end; wrow_close) | walk1 | (dsimp only; walk1) | (leave1; walk_say "STEP leave1"; try dsimp only)) | fail "no step"))
    exact hret P9 _ _ vs9 ws9 _ _ _ _ (by assumption) (by assumption) (hgA.thenBL hg9) hst9 rfl)

end
section
theorem whole_spec (w : World) (hRe : ReduceS w) : WholeS w := by
  unfold WholeS
  k_fill
  rintro mean mg mb dp un gd cn cs a ccd cl outer A₀ base h₀ L m M P s T b ol wl vs0 ws0 n1 n2 S0 W0 t Q E B F X N TT hk hst hwh hok hd hu hret
  refine el14 hst.bnd ?_
  rintro ab db _ _ _ _ _ _ _ _ _ _ _ kv ⟨rfl, hab, hdb, hkn⟩
  refine wpAny_call ?_
  k_dflt ktr_enter
  w_strict (
    walk_at "norm"
    rename_i g1 L1 h1 FG1 F1 N1 B1 X1 T1
    (replace F1 := fr_lk [(Str.ofString "self", .ref ab)] F1)
    (dsimp only [lkm] at F1)
    (repeat' (first | ((fail_if_success (with_reducible (first | refine tW ?_ | refine tI ?_ | refine tF ?_ | refine tC ?_ | refine tX ?_ | refine tR 426 ?_ | refine tR 433 ?_ | refine tR 314 ?_ | refine tR 321 ?_ | refine tR 377 ?_ | refine tR 370 ?_ | refine tR 286 ?_ | refine tR 384 ?_ | refine tR 391 ?_ | refine tR 45 ?_ | refine tR 475 ?_ | refine tR 482 ?_ | refine tR 489 ?_ | refine tR 496 ?_ | refine tR 503 ?_ | refine tR 510 ?_))); first | ((with_reducible show WhileStep2 _ _ _ _ _ _ (Flow.ret _) _); dsimp only [WhileStep2]) | ((with_reducible show TurnP _ _ _ _ _ _ _ _ _ (Flow.ret _) _); dsimp only [TurnP]) | (k_unfold; (try dsimp only)) | (k_end; first | refine' next_q (by with_reducible assumption) ?_ | refine' ret_q (by with_reducible assumption) ?_ | refine' brk_q (by with_reducible assumption) ?_ | refine' cont_q (by with_reducible assumption) ?_) | (k_end; wrow_close) | walk1 | (dsimp only; walk1) | (leave1; walk_say "STEP leave1"; try dsimp only)) | fail "no step"))
    (rename Fr _ _ _ _ => F1)
    (rename News _ _ _ _ => N1)
    refine While_inv2 (WJ w T M P (.ref ab) ol wl vs0 ws0 n1 n2 t (fun y => if y = Str.ofString "self" then some (Value.ref ab) else none)) F1 N1 ⟨S0, W0, vs0, ws0, n1, n2, P, rfl, rfl, rfl, .refl, hst, hok, hwh⟩ ?_
    rintro n m₁ nx h₁ tk₁ F₁ N₁ hDD1
    walk_at "norm"
    refine el7 hDD1 ?_
    clear hDD1
    rintro S W vs ws k1 k2 P1 ⟨rfl, rfl, rfl, hg, hs, hln, hwf⟩
    clear F1 N1
    have hs0 := hs
    have hab1 := hg.sub _ hab
    have hdb1 := hg.sub _ hdb
    obtain ⟨hb, hS, hW, hne, hoo, how, hrm⟩ := hs
    cases hW with
    | nil =>
      obtain rfl := whole_nil hwf
      cases hS with
      | @snoc vs' _ v _ hS' hn =>
      cases hS'
      (repeat' (first | ((fail_if_success (with_reducible (first | refine tW ?_ | refine tI ?_ | refine tF ?_ | refine tC ?_ | refine tX ?_ | refine tR 426 ?_ | refine tR 433 ?_ | refine tR 314 ?_ | refine tR 321 ?_ | refine tR 377 ?_ | refine tR 370 ?_ | refine tR 286 ?_ | refine tR 384 ?_ | refine tR 391 ?_ | refine tR 45 ?_ | refine tR 475 ?_ | refine tR 482 ?_ | refine tR 489 ?_ | refine tR 496 ?_ | refine tR 503 ?_ | refine tR 510 ?_))); first | ((with_reducible show WhileStep2 _ _ _ _ _ _ (Flow.ret _) _); dsimp only [WhileStep2]) | ((with_reducible show TurnP _ _ _ _ _ _ _ _ _ (Flow.ret _) _); dsimp only [TurnP]) | (k_unfold; (try dsimp only)) | (k_end; first | refine' next_q (by with_reducible assumption) ?_ | refine' ret_q (by with_reducible assumption) ?_ | refine' brk_q (by with_reducible assumption) ?_ | refine' cont_q (by with_reducible assumption) ?_) | (k_end; wrow_close) | walk1 | (dsimp only; walk1) | (leave1; walk_say "STEP leave1"; try dsimp only)) | fail "no step"))
      (rename News h₀ _ _ _ => N9)
      exact hret _ P1 _ _ (by assumption) (nsub N9 fun p hp => .tail _ (.tail _ (.tail _ hp))) hg hn
    | @snoc ws' W' v wt hW' hw =>
      refine el12 hw ?_
      rintro aw dw _ _ _ _ _ _ _ _ ov fw ⟨rfl, haw, hdw, hov, hfw⟩
      cases wt with
      | opn x =>
        obtain rfl := whole_opn hwf
        cases hS with
        | @snoc vs' _ v _ hS' hn =>
        cases hS'
        simp only [Wt.srt] at hdw
        (repeat' (first | ((fail_if_success (with_reducible (first | refine tW ?_ | refine tI ?_ | refine tF ?_ | refine tC ?_ | refine tX ?_ | refine tR 426 ?_ | refine tR 433 ?_ | refine tR 314 ?_ | refine tR 321 ?_ | refine tR 377 ?_ | refine tR 370 ?_ | refine tR 286 ?_ | refine tR 384 ?_ | refine tR 391 ?_ | refine tR 45 ?_ | refine tR 475 ?_ | refine tR 482 ?_ | refine tR 489 ?_ | refine tR 496 ?_ | refine tR 503 ?_ | refine tR 510 ?_))); first | ((with_reducible show WhileStep2 _ _ _ _ _ _ (Flow.ret _) _); dsimp only [WhileStep2]) | ((with_reducible show TurnP _ _ _ _ _ _ _ _ _ (Flow.ret _) _); dsimp only [TurnP]) | (k_unfold; (try dsimp only)) | (k_end; first | refine' next_q (by with_reducible assumption) ?_ | refine' ret_q (by with_reducible assumption) ?_ | refine' brk_q (by with_reducible assumption) ?_ | refine' cont_q (by with_reducible assumption) ?_) | (k_end; wrow_close) | walk1 | (dsimp only; walk1) | (leave1; walk_say "STEP leave1"; try dsimp only)) | fail "no step"))
        (rename News h₀ _ _ _ => N9)
        exact hret _ P1 _ _ (by assumption) (nsub N9 fun p hp => .tail _ (.tail _ (.tail _ hp))) hg hn
      | neg =>
        simp only [Wt.srt] at hdw
        (repeat' (first | ((fail_if_success (with_reducible (first | refine tW ?_ | refine tI ?_ | refine tF ?_ | refine tC ?_ | refine tX ?_ | refine tR 426 ?_ | refine tR 433 ?_ | refine tR 314 ?_ | refine tR 321 ?_ | refine tR 377 ?_ | refine tR 370 ?_ | refine tR 286 ?_ | refine tR 384 ?_ | refine tR 391 ?_ | refine tR 45 ?_ | refine tR 475 ?_ | refine tR 482 ?_ | refine tR 489 ?_ | refine tR 496 ?_ | refine tR 503 ?_ | refine tR 510 ?_))); first | ((with_reducible show WhileStep2 _ _ _ _ _ _ (Flow.ret _) _); dsimp only [WhileStep2]) | ((with_reducible show TurnP _ _ _ _ _ _ _ _ _ (Flow.ret _) _); dsimp only [TurnP]) | (k_unfold; (try dsimp only)) | (k_end; first | refine' next_q (by with_reducible assumption) ?_ | refine' ret_q (by with_reducible assumption) ?_ | refine' brk_q (by with_reducible assumption) ?_ | refine' cont_q (by with_reducible assumption) ?_) | (k_end; wrow_close) | walk1 | (dsimp only; walk1) | (leave1; walk_say "STEP leave1"; try dsimp only)) | fail "no step"))
        (rename Fr _ _ _ _ => F2)
        (rename News _ _ _ _ => N2)
        refine' hRe.use M P1 () (by k_asm) F2 (by k_asm) N2 sub1 (by k_asm) rfl hs0 (red_ok hln) ⟨_, rfl⟩ (by ktr_room) (by ktr_units) ?_ ?_
        rotate_left
        · intro e9 h9 G9 tk9 hF9 hR9 hU9 hz9
          exact absurd hz9 (red_some hln (by intro x h; cases h))
        rintro P4 h4 tk4 vs4 ws4 k3 k4 S4 W4 F4 N4 hg4 hs4 hrun
        have hlen := step_len hrun hln
        (repeat' (first | ((fail_if_success (with_reducible (first | refine tW ?_ | refine tI ?_ | refine tF ?_ | refine tC ?_ | refine tX ?_ | refine tR 426 ?_ | refine tR 433 ?_ | refine tR 314 ?_ | refine tR 321 ?_ | refine tR 377 ?_ | refine tR 370 ?_ | refine tR 286 ?_ | refine tR 384 ?_ | refine tR 391 ?_ | refine tR 45 ?_ | refine tR 475 ?_ | refine tR 482 ?_ | refine tR 489 ?_ | refine tR 496 ?_ | refine tR 503 ?_ | refine tR 510 ?_))); first | ((with_reducible show WhileStep2 _ _ _ _ _ _ (Flow.ret _) _); dsimp only [WhileStep2]) | ((with_reducible show TurnP _ _ _ _ _ _ _ _ _ (Flow.ret _) _); dsimp only [TurnP]) | (k_unfold; (try dsimp only)) | (k_end; first | refine' next_q (by with_reducible assumption) ?_ | refine' ret_q (by with_reducible assumption) ?_ | refine' brk_q (by with_reducible assumption) ?_ | refine' cont_q (by with_reducible assumption) ?_) | (k_end; wrow_close) | walk1 | (dsimp only; walk1) | (leave1; walk_say "STEP leave1"; try dsimp only)) | fail "no step"))
        exact ex5 _ _ _ _ _ ⟨rfl, by assumption, by assumption, by have := hlen.2; simp only [List.length_cons] at this ⊢; omega, ex7 S4 W4 vs4 ws4 k3 k4 P4 ⟨rfl, rfl, rfl, hg.thenBL hg4, hs4, hlen.1, (whole_step hrun).symm.trans hwf⟩⟩
      | bin x =>
        simp only [Wt.srt] at hdw
        (repeat' (first | ((fail_if_success (with_reducible (first | refine tW ?_ | refine tI ?_ | refine tF ?_ | refine tC ?_ | refine tX ?_ | refine tR 426 ?_ | refine tR 433 ?_ | refine tR 314 ?_ | refine tR 321 ?_ | refine tR 377 ?_ | refine tR 370 ?_ | refine tR 286 ?_ | refine tR 384 ?_ | refine tR 391 ?_ | refine tR 45 ?_ | refine tR 475 ?_ | refine tR 482 ?_ | refine tR 489 ?_ | refine tR 496 ?_ | refine tR 503 ?_ | refine tR 510 ?_))); first | ((with_reducible show WhileStep2 _ _ _ _ _ _ (Flow.ret _) _); dsimp only [WhileStep2]) | ((with_reducible show TurnP _ _ _ _ _ _ _ _ _ (Flow.ret _) _); dsimp only [TurnP]) | (k_unfold; (try dsimp only)) | (k_end; first | refine' next_q (by with_reducible assumption) ?_ | refine' ret_q (by with_reducible assumption) ?_ | refine' brk_q (by with_reducible assumption) ?_ | refine' cont_q (by with_reducible assumption) ?_) | (k_end; wrow_close) | walk1 | (dsimp only; walk1) | (leave1; walk_say "STEP leave1"; try dsimp only)) | fail "no step"))
        (rename Fr _ _ _ _ => F2)
        (rename News _ _ _ _ => N2)
        refine' hRe.use M P1 () (by k_asm) F2 (by k_asm) N2 sub1 (by k_asm) rfl hs0 (red_ok hln) ⟨_, rfl⟩ (by ktr_room) (by ktr_units) ?_ ?_
        rotate_left
        · intro e9 h9 G9 tk9 hF9 hR9 hU9 hz9
          exact absurd hz9 (red_some hln (by intro x h; cases h))
        rintro P4 h4 tk4 vs4 ws4 k3 k4 S4 W4 F4 N4 hg4 hs4 hrun
        have hlen := step_len hrun hln
        (repeat' (first | ((fail_if_success (with_reducible (first | refine tW ?_ | refine tI ?_ | refine tF ?_ | refine tC ?_ | refine tX ?_ | refine tR 426 ?_ | refine tR 433 ?_ | refine tR 314 ?_ | refine tR 321 ?_ | refine tR 377 ?_ | refine tR 370 ?_ | refine tR 286 ?_ | refine tR 384 ?_ | refine tR 391 ?_ | refine tR 45 ?_ | refine tR 475 ?_ | refine tR 482 ?_ | refine tR 489 ?_ | refine tR 496 ?_ | refine tR 503 ?_ | refine tR 510 ?_))); first | ((with_reducible show WhileStep2 _ _ _ _ _ _ (Flow.ret _) _); dsimp only [WhileStep2]) | ((with_reducible show TurnP _ _ _ _ _ _ _ _ _ (Flow.ret _) _); dsimp only [TurnP]) | (k_unfold; (try dsimp only)) | (k_end; first | refine' next_q (by with_reducible assumption) ?_ | refine' ret_q (by with_reducible assumption) ?_ | refine' brk_q (by with_reducible assumption) ?_ | refine' cont_q (by with_reducible assumption) ?_) | (k_end; wrow_close) | walk1 | (dsimp only; walk1) | (leave1; walk_say "STEP leave1"; try dsimp only)) | fail "no step"))
        exact ex5 _ _ _ _ _ ⟨rfl, by assumption, by assumption, by have := hlen.2; simp only [List.length_cons] at this ⊢; omega, ex7 S4 W4 vs4 ws4 k3 k4 P4 ⟨rfl, rfl, rfl, hg.thenBL hg4, hs4, hlen.1, (whole_step hrun).symm.trans hwf⟩⟩)

end
section
theorem take_spec (w : World) (hTo : TakeOperS w) (hTm : TakeMinusS w) : TakeS w := by
  unfold TakeS BSpec
  k_fill
  rintro mean mg mb dp un gd cn cs a ccd cl outer A₀ base h₀ L m M P s args row T b ol wl vs0 ws0 n1 n2 S0 W0 Q E B F X N TT hk hst hok hDD1 hd hu hret hrz
  refine el3 hDD1 ?_
  clear hDD1
  rintro la ivs nn ⟨rfl, hla, hits, hvl, hrl⟩
  refine el14 hst.bnd ?_
  rintro ab db _ _ _ _ _ _ _ _ _ _ _ kv ⟨rfl, hab, hdb, hkn⟩
  dsimp only at hd hu hok
  refine wpAny_call ?_
  k_dflt ktr_enter
  w_strict (
    walk_at "norm"
    rename_i g1 L1 h1 FG1 F1 N1 B1 X1 T1
    (replace F1 := fr_lk [(Str.ofString "items", .ref la), (Str.ofString "self", .ref ab)] F1)
    (dsimp only [lkm] at F1)
    (repeat' (first | ((fail_if_success (with_reducible (first | refine tW ?_ | refine tI ?_ | refine tF ?_ | refine tC ?_ | refine tX ?_ | refine tR 363 ?_ | refine tR 356 ?_ | refine tR 426 ?_ | refine tR 433 ?_ | refine tR 314 ?_ | refine tR 321 ?_ | refine tR 377 ?_ | refine tR 370 ?_ | refine tR 286 ?_ | refine tR 384 ?_ | refine tR 391 ?_ | refine tR 45 ?_ | refine tR 475 ?_ | refine tR 482 ?_ | refine tR 489 ?_ | refine tR 496 ?_ | refine tR 503 ?_ | refine tR 510 ?_))); first | ((with_reducible show WhileStep2 _ _ _ _ _ _ (Flow.ret _) _); dsimp only [WhileStep2]) | ((with_reducible show TurnP _ _ _ _ _ _ _ _ _ (Flow.ret _) _); dsimp only [TurnP]) | (k_unfold; (try dsimp only)) | (k_end; first | refine' next_q (by with_reducible assumption) ?_ | refine' ret_q (by with_reducible assumption) ?_ | refine' brk_q (by with_reducible assumption) ?_ | refine' cont_q (by with_reducible assumption) ?_) | (k_end; wrow_close) | walk1 | (dsimp only; walk1) | (leave1; walk_say "STEP leave1"; try dsimp only)) | fail "no step"))
    (rename Fr _ _ _ _ => F2)
    refine For_invVF F2 rfl rfl ?_
    (repeat' (first | ((fail_if_success (with_reducible (first | refine tW ?_ | refine tI ?_ | refine tF ?_ | refine tC ?_ | refine tX ?_ | refine tR 363 ?_ | refine tR 356 ?_ | refine tR 426 ?_ | refine tR 433 ?_ | refine tR 314 ?_ | refine tR 321 ?_ | refine tR 377 ?_ | refine tR 370 ?_ | refine tR 286 ?_ | refine tR 384 ?_ | refine tR 391 ?_ | refine tR 45 ?_ | refine tR 475 ?_ | refine tR 482 ?_ | refine tR 489 ?_ | refine tR 496 ?_ | refine tR 503 ?_ | refine tR 510 ?_))); first | ((with_reducible show WhileStep2 _ _ _ _ _ _ (Flow.ret _) _); dsimp only [WhileStep2]) | ((with_reducible show TurnP _ _ _ _ _ _ _ _ _ (Flow.ret _) _); dsimp only [TurnP]) | (k_unfold; (try dsimp only)) | (k_end; first | refine' next_q (by with_reducible assumption) ?_ | refine' ret_q (by with_reducible assumption) ?_ | refine' brk_q (by with_reducible assumption) ?_ | refine' cont_q (by with_reducible assumption) ?_) | (k_end; wrow_close) | walk1 | (dsimp only; walk1) | (leave1; walk_say "STEP leave1"; try dsimp only)) | fail "no step"))
    (rename Fr _ _ _ _ => F2)
    (rename News _ _ _ _ => N2)
    refine forG (M := (ol, listOf vs0.toArray n1) :: (wl, listOf ws0.toArray n2) :: M) (P := P) [Str.ofString "is_due"] (fun i u Mx Px => ∃ vs ws k1 k2 S W due, u (Str.ofString "is_due") = some (.bool due) ∧ Mx = (ol, listOf vs.toArray k1) :: (wl, listOf ws.toArray k2) :: M ∧ Gr (BL ol wl vs0 ws0 n1 n2 (M ++ P)) P Px ∧ BSt w T M Px (.ref ab) ol wl vs ws S W ∧ takeF T row true S0 W0 = takeF T (row.drop i) due S W ∧ vldD due (row.drop i) = true ∧ S.length = bins W + (if due then 0 else 1) ∧ S.length + W.length ≤ 2 + i) rfl (fun i u Mx Px h9 => el7 h9 fun _ _ _ _ _ _ _ h8 => h8.2.2.1.sub _ hla) F2 N2 ⟨vs0, ws0, n1, n2, S0, W0, true, rfl, rfl, .refl, hst, by simp, hvl, by simpa using hok.1, by omega⟩ ?_ ?_
    · rintro i v u _ Px h3 tk3 own hv ho hDD1 F3 N3
      walk_at "norm"
      refine el7 hDD1 ?_
      clear hDD1
      rintro vs ws k1 k2 S W due ⟨hdue, rfl, hg, hs, htk, hvd, hln, hsz⟩
      rw [due_frame _ hdue] at F3
      have hi11 : i < 11 := by
        have h9 : i < ivs.length := (List.getElem?_eq_some_iff.mp hv).1
        rw [hits.length] at h9; omega
      obtain ⟨it, hit, hitm⟩ := hits.at hv
      have hrow : row.drop i = it :: row.drop (i + 1) := by
        obtain ⟨h9, rfl⟩ := List.getElem?_eq_some_iff.mp hit
        exact List.drop_eq_getElem_cons h9
      rw [hrow] at htk hvd
      have hab3 := hg.sub _ hab
      have hdb3 := hg.sub _ hdb
      have N5 : News g1 L1 h3 ((ol, listOf vs.toArray k1) :: (wl, listOf ws.toArray k2) :: ((own ++ M) ++ Px)) := nsub N3 bl_own
      have hse := hs.enter ho
      have hoo := hse.oo
      have how := hse.ow
      have hne := hse.ne
      clear N3
      cases due with
      | true =>
        cases it with
        | num i0 =>
          have hit0 := hitm
          obtain ⟨ax, hax⟩ : ∃ ax, v = .ref ax := by cases hitm; exact ⟨_, rfl⟩
          subst hax
          cases hitm with
          | lit ha1 hd1 =>
          have ha2 := hg.sub _ ha1
          have hd2 := hg.sub _ hd1
          have hvz : vs.toArray.size ≤ sizeLine := by rw [sizeLine_eq, List.size_toArray, hs.stk.length]; omega
          (repeat' (first | ((fail_if_success (with_reducible (first | refine tW ?_ | refine tI ?_ | refine tF ?_ | refine tC ?_ | refine tX ?_ | refine tR 363 ?_ | refine tR 356 ?_ | refine tR 426 ?_ | refine tR 433 ?_ | refine tR 314 ?_ | refine tR 321 ?_ | refine tR 377 ?_ | refine tR 370 ?_ | refine tR 286 ?_ | refine tR 384 ?_ | refine tR 391 ?_ | refine tR 45 ?_ | refine tR 475 ?_ | refine tR 482 ?_ | refine tR 489 ?_ | refine tR 496 ?_ | refine tR 503 ?_ | refine tR 510 ?_))); first | ((with_reducible show WhileStep2 _ _ _ _ _ _ (Flow.ret _) _); dsimp only [WhileStep2]) | ((with_reducible show TurnP _ _ _ _ _ _ _ _ _ (Flow.ret _) _); dsimp only [TurnP]) | (k_unfold; (try dsimp only)) | (k_end; first | refine' next_q (by with_reducible assumption) ?_ | refine' ret_q (by with_reducible assumption) ?_ | refine' brk_q (by with_reducible assumption) ?_ | refine' cont_q (by with_reducible assumption) ?_) | (k_end; wrow_close) | walk1 | (dsimp only; walk1) | (leave1; walk_say "STEP leave1"; try dsimp only)) | fail "no step"))
          (rename News _ _ _ _ => N6)
          rw [List.push_toArray] at N6
          have hst2 : BSt w T (own ++ M) Px (.ref ab) ol wl (vs ++ [Value.ref ax]) ws (.leaf i0 :: S) W := ⟨hse.bnd, hse.stk.snoc (NodeIn.mono hg.sub hit0), hse.wts, hne, hoo, how, by simp only [List.length_cons]; omega⟩
          obtain ⟨hA, hB, hC⟩ := BSt.exit (o1' := listOf (vs ++ [Value.ref ax]).toArray (k1 + 1)) (o2' := listOf ws.toArray k2) (o11 := listOf vs.toArray k1) (o21 := listOf ws.toArray k2) hst2 ho hg .refl
          exact ex5 _ _ _ ((ol, listOf (vs ++ [Value.ref ax]).toArray (k1 + 1)) :: (wl, listOf ws.toArray k2) :: M) Px ⟨rfl, by assumption, nsub N6 bl_own2, hC, by (first | (intro z h1 h3; (repeat' (first | with_reducible rfl | with_reducible refine sm1 h1 ?_ | with_reducible refine sm2 h3 ?_ | with_reducible refine sm4 ?_ | with_reducible refine sm3 h3 (by kfm_turns) ?_)); done) | (intro z h1 h3; (try simp only [List.contains_cons, List.contains_nil, Bool.or_false, Bool.or_eq_false_iff, beq_eq_false_iff_ne, ne_eq] at h3); first | rfl | (simp [h1, h3]; done) | (simp_all; done))), ex7 (vs ++ [Value.ref ax]) ws (k1 + 1) k2 (.leaf i0 :: S) W false ⟨by with_unfolding_all rfl, rfl, hB, hA, htk.trans take_num, vld_num hvd, by simpa using hln, by simp only [List.length_cons]; omega⟩⟩
        | sym x =>
          obtain ⟨rfl, hvr⟩ := vld_sym hvd
          have hvr := vld_due hvr
          refine el10 (id hitm) ?_
          rintro ao do_ _ _ _ _ _ _ _ _ ⟨rfl, hao, hdo⟩
          have hao2 := hg.sub _ hao
          have hdo2 := hg.sub _ hdo
          (repeat' (first | ((fail_if_success (with_reducible (first | refine tW ?_ | refine tI ?_ | refine tF ?_ | refine tC ?_ | refine tX ?_ | refine tR 363 ?_ | refine tR 356 ?_ | refine tR 426 ?_ | refine tR 433 ?_ | refine tR 314 ?_ | refine tR 321 ?_ | refine tR 377 ?_ | refine tR 370 ?_ | refine tR 286 ?_ | refine tR 384 ?_ | refine tR 391 ?_ | refine tR 45 ?_ | refine tR 475 ?_ | refine tR 482 ?_ | refine tR 489 ?_ | refine tR 496 ?_ | refine tR 503 ?_ | refine tR 510 ?_))); first | ((with_reducible show WhileStep2 _ _ _ _ _ _ (Flow.ret _) _); dsimp only [WhileStep2]) | ((with_reducible show TurnP _ _ _ _ _ _ _ _ _ (Flow.ret _) _); dsimp only [TurnP]) | (k_unfold; (try dsimp only)) | (k_end; first | refine' next_q (by with_reducible assumption) ?_ | refine' ret_q (by with_reducible assumption) ?_ | refine' brk_q (by with_reducible assumption) ?_ | refine' cont_q (by with_reducible assumption) ?_) | (k_end; wrow_close) | walk1 | (dsimp only; walk1) | (leave1; walk_say "STEP leave1"; try dsimp only)) | fail "no step"))
          (rename Fr _ _ _ _ => F6)
          (rename News _ _ _ _ => N6)
          refine' hTm.use (own ++ M) Px () (by k_asm) F6 (by k_asm) N6 sub0 (by k_asm) rfl hse (show S.length + W.length ≤ 50 by omega) ⟨_, rfl, OpIn.mono hitm hg.sub⟩ (by ktr_room) (by ktr_units) ?_ ?_
          rotate_left
          · intro e9 h9 G9 tk9 hF9 hR9 hU9 hz9
            ((show wpAny _ _ (leaving _ _) _ _ _); refine' leave_onSN ?Kq13 ?Fq13 ?Rq13 ?Uq13 ?_; (case Rq13 => assumption); (case Kq13 => assumption); (case Fq13 => assumption); (case Uq13 => assumption); intro zh5 zR5 _ zU5)
            exact hrz _ _ _ _ (by assumption) (RaisedSN.less (by assumption) (fun p hp => (List.mem_append.mp hp).elim (fun hp => List.mem_append_left _ (List.mem_append_right _ hp)) (fun hp => List.mem_append_right _ (hg.sub _ hp)))) (by assumption) (htk.trans (take_mi0 hz9))
          rintro P4 h4 tk4 vs4 ws4 k3 k4 S4 W4 F4 N4 hg4 hs4 hrun
          have hml := minus_len hrun
          have hl4 : S4.length = bins W4 + (if true then 0 else 1) ∧ S4.length + W4.length ≤ 2 + (i + 1) := by
            rw [hml.1, hml.2]
            exact ⟨by simpa [bins] using hln, by simp only [List.length_cons]; omega⟩
          (repeat' (first | ((fail_if_success (with_reducible (first | refine tW ?_ | refine tI ?_ | refine tF ?_ | refine tC ?_ | refine tX ?_ | refine tR 363 ?_ | refine tR 356 ?_ | refine tR 426 ?_ | refine tR 433 ?_ | refine tR 314 ?_ | refine tR 321 ?_ | refine tR 377 ?_ | refine tR 370 ?_ | refine tR 286 ?_ | refine tR 384 ?_ | refine tR 391 ?_ | refine tR 45 ?_ | refine tR 475 ?_ | refine tR 482 ?_ | refine tR 489 ?_ | refine tR 496 ?_ | refine tR 503 ?_ | refine tR 510 ?_))); first | ((with_reducible show WhileStep2 _ _ _ _ _ _ (Flow.ret _) _); dsimp only [WhileStep2]) | ((with_reducible show TurnP _ _ _ _ _ _ _ _ _ (Flow.ret _) _); dsimp only [TurnP]) | (k_unfold; (try dsimp only)) | (k_end; first | refine' next_q (by with_reducible assumption) ?_ | refine' ret_q (by with_reducible assumption) ?_ | refine' brk_q (by with_reducible assumption) ?_ | refine' cont_q (by with_reducible assumption) ?_) | (k_end; wrow_close) | walk1 | (dsimp only; walk1) | (leave1; walk_say "STEP leave1"; try dsimp only)) | fail "no step"))
          obtain ⟨hA, hB, hC⟩ := BSt.exit (o1' := listOf vs4.toArray k3) (o2' := listOf ws4.toArray k4) hs4 ho hg hg4
          (rename News _ _ _ _ => N7)
          exact ex5 _ _ _ ((ol, listOf vs4.toArray k3) :: (wl, listOf ws4.toArray k4) :: M) P4 ⟨rfl, by assumption, nsub N7 bl_own2, hC, by (first | (intro z h1 h3; (repeat' (first | with_reducible rfl | with_reducible refine sm1 h1 ?_ | with_reducible refine sm2 h3 ?_ | with_reducible refine sm4 ?_ | with_reducible refine sm3 h3 (by kfm_turns) ?_)); done) | (intro z h1 h3; (try simp only [List.contains_cons, List.contains_nil, Bool.or_false, Bool.or_eq_false_iff, beq_eq_false_iff_ne, ne_eq] at h3); first | rfl | (simp [h1, h3]; done) | (simp_all; done))), ex7 vs4 ws4 k3 k4 S4 W4 true ⟨by with_unfolding_all rfl, rfl, hB, hA, htk.trans (take_mi hrun), hvr, hl4.1, hl4.2⟩⟩
      | false =>
        cases it with
        | num i0 => cases hvd
        | sym x =>
          have hvd := (Bool.and_eq_true_iff.mp hvd).imp of_decide_eq_true id
          refine el10 (id hitm) ?_
          rintro ao do_ _ _ _ _ _ _ _ _ ⟨rfl, hao, hdo⟩
          have hao2 := hg.sub _ hao
          have hdo2 := hg.sub _ hdo
          (repeat' (first | ((fail_if_success (with_reducible (first | refine tW ?_ | refine tI ?_ | refine tF ?_ | refine tC ?_ | refine tX ?_ | refine tR 363 ?_ | refine tR 356 ?_ | refine tR 426 ?_ | refine tR 433 ?_ | refine tR 314 ?_ | refine tR 321 ?_ | refine tR 377 ?_ | refine tR 370 ?_ | refine tR 286 ?_ | refine tR 384 ?_ | refine tR 391 ?_ | refine tR 45 ?_ | refine tR 475 ?_ | refine tR 482 ?_ | refine tR 489 ?_ | refine tR 496 ?_ | refine tR 503 ?_ | refine tR 510 ?_))); first | ((with_reducible show WhileStep2 _ _ _ _ _ _ (Flow.ret _) _); dsimp only [WhileStep2]) | ((with_reducible show TurnP _ _ _ _ _ _ _ _ _ (Flow.ret _) _); dsimp only [TurnP]) | (k_unfold; (try dsimp only)) | (k_end; first | refine' next_q (by with_reducible assumption) ?_ | refine' ret_q (by with_reducible assumption) ?_ | refine' brk_q (by with_reducible assumption) ?_ | refine' cont_q (by with_reducible assumption) ?_) | (k_end; wrow_close) | walk1 | (dsimp only; walk1) | (leave1; walk_say "STEP leave1"; try dsimp only)) | fail "no step"))
          (rename Fr _ _ _ _ => F6)
          (rename News _ _ _ _ => N6)
          refine' hTo.use (own ++ M) Px x (by k_asm) F6 (by k_asm) N6 sub0 (by k_asm) rfl hse ⟨by simpa using hln, by omega⟩ ⟨_, rfl, OpIn.mono hitm hg.sub, hvd.1⟩ (by ktr_room) (by ktr_units) ?_ ?_
          rotate_left
          · intro e9 h9 G9 tk9 hF9 hR9 hU9 hz9
            ((show wpAny _ _ (leaving _ _) _ _ _); refine' leave_onSN ?Kq14 ?Fq14 ?Rq14 ?Uq14 ?_; (case Rq14 => assumption); (case Kq14 => assumption); (case Fq14 => assumption); (case Uq14 => assumption); intro zh5 zR5 _ zU5)
            exact hrz _ _ _ _ (by assumption) (RaisedSN.less (by assumption) (fun p hp => (List.mem_append.mp hp).elim (fun hp => List.mem_append_left _ (List.mem_append_right _ hp)) (fun hp => List.mem_append_right _ (hg.sub _ hp)))) (by assumption) (htk.trans (take_op0 hz9))
          rintro P4 h4 tk4 vs4 ws4 k3 k4 S4 W4 F4 N4 hg4 hs4 hrun
          have hl5 := oper_len hrun (by simpa using hln)
          have hl4 : S4.length = bins W4 + (if true then 0 else 1) ∧ S4.length + W4.length ≤ 2 + (i + 1) := ⟨by simpa using hl5.1, by omega⟩
          (repeat' (first | ((fail_if_success (with_reducible (first | refine tW ?_ | refine tI ?_ | refine tF ?_ | refine tC ?_ | refine tX ?_ | refine tR 363 ?_ | refine tR 356 ?_ | refine tR 426 ?_ | refine tR 433 ?_ | refine tR 314 ?_ | refine tR 321 ?_ | refine tR 377 ?_ | refine tR 370 ?_ | refine tR 286 ?_ | refine tR 384 ?_ | refine tR 391 ?_ | refine tR 45 ?_ | refine tR 475 ?_ | refine tR 482 ?_ | refine tR 489 ?_ | refine tR 496 ?_ | refine tR 503 ?_ | refine tR 510 ?_))); first | ((with_reducible show WhileStep2 _ _ _ _ _ _ (Flow.ret _) _); dsimp only [WhileStep2]) | ((with_reducible show TurnP _ _ _ _ _ _ _ _ _ (Flow.ret _) _); dsimp only [TurnP]) | (k_unfold; (try dsimp only)) | (k_end; first | refine' next_q (by with_reducible assumption) ?_ | refine' ret_q (by with_reducible assumption) ?_ | refine' brk_q (by with_reducible assumption) ?_ | refine' cont_q (by with_reducible assumption) ?_) | (k_end; wrow_close) | walk1 | (dsimp only; walk1) | (leave1; walk_say "STEP leave1"; try dsimp only)) | fail "no step"))
          obtain ⟨hA, hB, hC⟩ := BSt.exit (o1' := listOf vs4.toArray k3) (o2' := listOf ws4.toArray k4) hs4 ho hg hg4
          (rename News _ _ _ _ => N7)
          exact ex5 _ _ _ ((ol, listOf vs4.toArray k3) :: (wl, listOf ws4.toArray k4) :: M) P4 ⟨rfl, by assumption, nsub N7 bl_own2, hC, by (first | (intro z h1 h3; (repeat' (first | with_reducible rfl | with_reducible refine sm1 h1 ?_ | with_reducible refine sm2 h3 ?_ | with_reducible refine sm4 ?_ | with_reducible refine sm3 h3 (by kfm_turns) ?_)); done) | (intro z h1 h3; (try simp only [List.contains_cons, List.contains_nil, Bool.or_false, Bool.or_eq_false_iff, beq_eq_false_iff_ne, ne_eq] at h3); first | rfl | (simp [h1, h3]; done) | (simp_all; done))), ex7 vs4 ws4 k3 k4 S4 W4 true ⟨by with_unfolding_all rfl, rfl, hB, hA, htk.trans (take_op hrun), hvd.2, hl4.1, hl4.2⟩⟩
    · rintro u _ Px h3 tk3 hDD1 F3 N3
      walk_at "norm"
      refine el7 hDD1 ?_
      clear hDD1
      rintro vs ws k1 k2 S W due ⟨hdue, rfl, hg, hs, htk, hvd, hln, hsz⟩
      rw [due_frame2 _ hdue] at F3
      rw [hits.length, List.drop_length] at htk hvd
      cases due with
      | true => cases hvd
      | false =>
        (repeat' (first | ((fail_if_success (with_reducible (first | refine tW ?_ | refine tI ?_ | refine tF ?_ | refine tC ?_ | refine tX ?_ | refine tR 363 ?_ | refine tR 356 ?_ | refine tR 426 ?_ | refine tR 433 ?_ | refine tR 314 ?_ | refine tR 321 ?_ | refine tR 377 ?_ | refine tR 370 ?_ | refine tR 286 ?_ | refine tR 384 ?_ | refine tR 391 ?_ | refine tR 45 ?_ | refine tR 475 ?_ | refine tR 482 ?_ | refine tR 489 ?_ | refine tR 496 ?_ | refine tR 503 ?_ | refine tR 510 ?_))); first | ((with_reducible show WhileStep2 _ _ _ _ _ _ (Flow.ret _) _); dsimp only [WhileStep2]) | ((with_reducible show TurnP _ _ _ _ _ _ _ _ _ (Flow.ret _) _); dsimp only [TurnP]) | (k_unfold; (try dsimp only)) | (k_end; first | refine' next_q (by with_reducible assumption) ?_ | refine' ret_q (by with_reducible assumption) ?_ | refine' brk_q (by with_reducible assumption) ?_ | refine' cont_q (by with_reducible assumption) ?_) | (k_end; wrow_close) | walk1 | (dsimp only; walk1) | (leave1; walk_say "STEP leave1"; try dsimp only)) | fail "no step"))
        exact hret Px _ _ vs ws _ _ S W (by assumption) (by assumption) hg hs htk)

end
section
theorem new_binder_spec (w : World) : NewBinderS w := by
  unfold NewBinderS
  k_fill
  rintro mean mg mb dp un gd cn cs a ccd cl outer A₀ base h₀ L m M P s T kv Q E B F X N TT hk hkn hd hu hret
  refine el3 (id hkn) ?_
  rintro dk ok kvs ⟨rfl, hdk, -⟩
  w_strict (
    walk_at "norm"
    (k_here; refine' call_cls (by k_asm) (by k_asm) (by k_asm) (by k_is) (by k_is) (by k_is) ?_; k_whole; intro zx2 zd2 zh2 zF2 zN2 zl2 zm2; (try k_lt zl2); (try k_lt2 zm2); (try k_sweep); k_dflt (first | ktr_enter | (refine' code_def ?zek1q16 ?zek2q16 ?zek3q16 ?zek4q16 ?zek5q16 ?zekAq16 ?zekFq16 ?zekKq16 ?zek6q16 ?zek7q16 ?zek8q16 ?zek9q16 ?zekBq16 ?_ ?zec2q16 ?zec3q16 ?zec4q16 ?zec5q16; (case zekAq16 => exact rfl); (case zekFq16 => exact rfl); (case zekKq16 => assumption); (case zek1q16 => k_asm); (case zek2q16 => k_asm); (case zek3q16 => k_asm); (case zek4q16 => k_asm); (case zek5q16 => k_asm); (case zek6q16 => k_is); (case zek7q16 => k_is); (case zek8q16 => ktr_room); (case zek9q16 => exact binds_K (by k_in) rfl (by k_is) rfl rfl rfl); (case zec5q16 => decide); (case zekBq16 => exact locs rfl); (case zec2q16 => exact rfl); (case zec3q16 => exact rfl); (case zec4q16 => exact rfl); k_whole; intro zg1 zL1 zh1 zFG zF1 zN1 zB1 zX1 zT1; (try dsimp only); (try k_fold))))
    (repeat' (first | ((fail_if_success (with_reducible (first | refine tW ?_ | refine tI ?_ | refine tF ?_ | refine tC ?_ | refine tX ?_ | refine tR 426 ?_ | refine tR 433 ?_ | refine tR 314 ?_ | refine tR 321 ?_ | refine tR 377 ?_ | refine tR 370 ?_ | refine tR 286 ?_ | refine tR 384 ?_ | refine tR 391 ?_ | refine tR 45 ?_ | refine tR 475 ?_ | refine tR 482 ?_ | refine tR 489 ?_ | refine tR 496 ?_ | refine tR 503 ?_ | refine tR 510 ?_))); first | ((with_reducible show WhileStep2 _ _ _ _ _ _ (Flow.ret _) _); dsimp only [WhileStep2]) | ((with_reducible show TurnP _ _ _ _ _ _ _ _ _ (Flow.ret _) _); dsimp only [TurnP]) | (k_unfold; (try dsimp only)) | (k_end; first | refine' next_q (by with_reducible assumption) ?_ | refine' ret_q (by with_reducible assumption) ?_ | refine' brk_q (by with_reducible assumption) ?_ | refine' cont_q (by with_reducible assumption) ?_) | (k_end; wrow_close) | walk1 | (dsimp only; walk1) | (leave1; walk_say "STEP leave1"; try dsimp only)) | fail "no step"))
    (rename (_ ∧ _ ∧ _ ∧ AllLt _ _) => l4)
    (rename (_ ∧ _ ∧ AllLt _ _) => l3)
    (rename (∀ p ∈ M ++ P, p.1 < _) => l1)
    (rename ((_ : Addr) < _) => l2)
    (rename News h₀ _ _ _ => N2)
    obtain ⟨P', N3, hg, hs⟩ := binder_fin hkn N2 l1 l2 l3 l4
    exact hret _ P' _ _ _ _ _ _ (by assumption) N3 hg hs)
theorem bound_spec (w : World) (hNb : NewBinderS w) (hTk : TakeS w) (hWh : WholeS w) : BoundS w := by
  unfold BoundS RSpec
  k_fill
  rintro mean mg mb dp un gd cn cs a ccd cl outer A₀ base h₀ L m M P s vs ⟨T, row⟩ Q E B F X N TT hk hDD1 hd hu hret hrz
  obtain ⟨iv, kv, rfl, hit, hkn, hvl, hrl⟩ := hDD1
  refine el3 (id hit) ?_
  rintro la ivs nn ⟨rfl, hla, hits⟩
  refine el3 (id hkn) ?_
  rintro dk ok kvs ⟨rfl, hdk, -⟩
  dsimp only at hd hu hla hits hdk hvl hrl
  refine wpAny_call ?_
  k_dflt ktr_enter
  w_strict (
    walk_at "norm"
    rename_i g1 L1 h1 FG1 F1 N1 B1 X1 T1
    (replace F1 := fr_lk [(Str.ofString "negate", .ref 433), (Str.ofString "make", .ref 426), (Str.ofString "known", .ref dk), (Str.ofString "items", .ref la)] F1)
    (dsimp only [lkm] at F1)
    (repeat' (first | ((fail_if_success (with_reducible (first | refine tW ?_ | refine tI ?_ | refine tF ?_ | refine tC ?_ | refine tX ?_ | refine tR 394 ?_ | refine tR 349 ?_ | refine tR 426 ?_ | refine tR 433 ?_ | refine tR 314 ?_ | refine tR 321 ?_ | refine tR 377 ?_ | refine tR 370 ?_ | refine tR 286 ?_ | refine tR 384 ?_ | refine tR 391 ?_ | refine tR 45 ?_ | refine tR 475 ?_ | refine tR 482 ?_ | refine tR 489 ?_ | refine tR 496 ?_ | refine tR 503 ?_ | refine tR 510 ?_))); first | ((with_reducible show WhileStep2 _ _ _ _ _ _ (Flow.ret _) _); dsimp only [WhileStep2]) | ((with_reducible show TurnP _ _ _ _ _ _ _ _ _ (Flow.ret _) _); dsimp only [TurnP]) | (k_unfold; (try dsimp only)) | (k_end; first | refine' next_q (by with_reducible assumption) ?_ | refine' ret_q (by with_reducible assumption) ?_ | refine' brk_q (by with_reducible assumption) ?_ | refine' cont_q (by with_reducible assumption) ?_) | (k_end; wrow_close) | walk1 | (dsimp only; walk1) | (leave1; walk_say "STEP leave1"; try dsimp only)) | fail "no step"))
    (rename Fr _ _ _ _ => F2)
    (rename News _ _ _ _ => N2)
    refine' hNb mean mg mb _ _ _ _ _ _ _ [] _ _ _ _ _ _ M P _ T _ _ _ (by k_asm) F2 (by k_asm) N2 (by k_asm) rfl hkn (by ktr_room) (by ktr_units) ?_
    rintro b P3 h3 tk3 ol wl k1 k2 F3 N3 hg3 hs3
    (try clear N2); (try clear F2); (try clear N1)
    refine el14 (id hs3.bnd) ?_
    rintro ab db _ _ _ _ _ _ _ _ _ _ _ kv3 ⟨rfl, hab, hdb, hkn3⟩
    (repeat' (first | ((fail_if_success (with_reducible (first | refine tW ?_ | refine tI ?_ | refine tF ?_ | refine tC ?_ | refine tX ?_ | refine tR 394 ?_ | refine tR 349 ?_ | refine tR 426 ?_ | refine tR 433 ?_ | refine tR 314 ?_ | refine tR 321 ?_ | refine tR 377 ?_ | refine tR 370 ?_ | refine tR 286 ?_ | refine tR 384 ?_ | refine tR 391 ?_ | refine tR 45 ?_ | refine tR 475 ?_ | refine tR 482 ?_ | refine tR 489 ?_ | refine tR 496 ?_ | refine tR 503 ?_ | refine tR 510 ?_))); first | ((with_reducible show WhileStep2 _ _ _ _ _ _ (Flow.ret _) _); dsimp only [WhileStep2]) | ((with_reducible show TurnP _ _ _ _ _ _ _ _ _ (Flow.ret _) _); dsimp only [TurnP]) | (k_unfold; (try dsimp only)) | (k_end; first | refine' next_q (by with_reducible assumption) ?_ | refine' ret_q (by with_reducible assumption) ?_ | refine' brk_q (by with_reducible assumption) ?_ | refine' cont_q (by with_reducible assumption) ?_) | (k_end; wrow_close) | walk1 | (dsimp only; walk1) | (leave1; walk_say "STEP leave1"; try dsimp only)) | fail "no step"))
    (rename Fr _ _ _ _ => F4)
    (rename News _ _ _ _ => N4)
    refine' hTk.use M P3 row (by k_asm) F4 (by k_asm) N4 sub0 (by k_asm) rfl hs3 ⟨rfl, Nat.zero_le _⟩ ⟨la, ivs, nn, rfl, hg3.sub _ hla, hits.mono hg3.sub, hvl, hrl⟩ (by ktr_room) (by ktr_units) ?_ ?_
    rotate_left
    · intro e9 h9 G9 tk9 hF9 hR9 hU9 hz9
      ((show wpAny _ _ (leaving _ _) _ _ _); refine' leave_onSN ?Kq17 ?Fq17 ?Rq17 ?Uq17 ?_; (case Rq17 => assumption); (case Kq17 => assumption); (case Fq17 => assumption); (case Uq17 => assumption); intro zh5 zR5 _ zU5)
      exact hrz _ _ _ _ (by assumption) (RaisedSN.less (by assumption) (fun p hp => (List.mem_append.mp hp).elim (fun hp => List.mem_append_left _ hp) (fun hp => List.mem_append_right _ (hg3.sub _ hp)))) (by assumption) (bound_none hz9)
    rintro P5 h5 tk5 vs5 ws5 k5 k6 S5 W5 F5 N5 hg5 hs5 hrun
    have hl := take_len (d := true) (by exact hvl) hrun (by rfl)
    obtain ⟨t, ht⟩ := whole_some (take_ok hrun (by rfl)) hl.1
    have hab5 := hg5.sub _ hab
    have hdb5 := hg5.sub _ hdb
    (try clear N4); (try clear F4)
    (repeat' (first | ((fail_if_success (with_reducible (first | refine tW ?_ | refine tI ?_ | refine tF ?_ | refine tC ?_ | refine tX ?_ | refine tR 394 ?_ | refine tR 349 ?_ | refine tR 426 ?_ | refine tR 433 ?_ | refine tR 314 ?_ | refine tR 321 ?_ | refine tR 377 ?_ | refine tR 370 ?_ | refine tR 286 ?_ | refine tR 384 ?_ | refine tR 391 ?_ | refine tR 45 ?_ | refine tR 475 ?_ | refine tR 482 ?_ | refine tR 489 ?_ | refine tR 496 ?_ | refine tR 503 ?_ | refine tR 510 ?_))); first | ((with_reducible show WhileStep2 _ _ _ _ _ _ (Flow.ret _) _); dsimp only [WhileStep2]) | ((with_reducible show TurnP _ _ _ _ _ _ _ _ _ (Flow.ret _) _); dsimp only [TurnP]) | (k_unfold; (try dsimp only)) | (k_end; first | refine' next_q (by with_reducible assumption) ?_ | refine' ret_q (by with_reducible assumption) ?_ | refine' brk_q (by with_reducible assumption) ?_ | refine' cont_q (by with_reducible assumption) ?_) | (k_end; wrow_close) | walk1 | (dsimp only; walk1) | (leave1; walk_say "STEP leave1"; try dsimp only)) | fail "no step"))
    (rename Fr _ _ _ _ => F6)
    (rename News _ _ _ _ => N6)
    refine' hWh mean mg mb _ _ _ _ _ _ _ [] _ _ _ _ _ _ M P5 _ T _ _ _ _ _ _ _ _ _ t _ _ (by k_asm) F6 (by k_asm) N6 (by k_asm) rfl hs5 ht hl.1 (by ktr_room) (by ktr_units) ?_
    rintro r P7 h7 tk7 F7 N7 hg7 hn
    (repeat' (first | ((fail_if_success (with_reducible (first | refine tW ?_ | refine tI ?_ | refine tF ?_ | refine tC ?_ | refine tX ?_ | refine tR 394 ?_ | refine tR 349 ?_ | refine tR 426 ?_ | refine tR 433 ?_ | refine tR 314 ?_ | refine tR 321 ?_ | refine tR 377 ?_ | refine tR 370 ?_ | refine tR 286 ?_ | refine tR 384 ?_ | refine tR 391 ?_ | refine tR 45 ?_ | refine tR 475 ?_ | refine tR 482 ?_ | refine tR 489 ?_ | refine tR 496 ?_ | refine tR 503 ?_ | refine tR 510 ?_))); first | ((with_reducible show WhileStep2 _ _ _ _ _ _ (Flow.ret _) _); dsimp only [WhileStep2]) | ((with_reducible show TurnP _ _ _ _ _ _ _ _ _ (Flow.ret _) _); dsimp only [TurnP]) | (k_unfold; (try dsimp only)) | (k_end; first | refine' next_q (by with_reducible assumption) ?_ | refine' ret_q (by with_reducible assumption) ?_ | refine' brk_q (by with_reducible assumption) ?_ | refine' cont_q (by with_reducible assumption) ?_) | (k_end; wrow_close) | walk1 | (dsimp only; walk1) | (leave1; walk_say "STEP leave1"; try dsimp only)) | fail "no step"))
    have g := (hg3.bl hg5).bl hg7
    exact hret _ _ _ _ (by assumption) (by assumption) g.sub g.fr ⟨t, (bound_some hrun).trans ht, hn⟩)

end
section
theorem bound_right_spec (w : World) (hNb : NewBinderS w) (hOp : OpenS w) (hTk : TakeS w) (hWh : WholeS w) : BoundRightS w := by
  unfold BoundRightS RSpec
  k_fill
  rintro mean mg mb dp un gd cn cs a ccd cl outer A₀ base h₀ L m M P s vs ⟨T, row, x⟩ Q E B F X N TT hk hDD1 hd hu hret hrz
  refine el3 hDD1 ?_
  clear hDD1
  rintro iv ov kv ⟨rfl, hit, hkn, hov, hx, hvl, hrl⟩
  refine el3 (id hit) ?_
  rintro la ivs nn ⟨rfl, hla, hits⟩
  refine el3 (id hkn) ?_
  rintro dk ok kvs ⟨rfl, hdk, -⟩
  refine el10 (id hov) ?_
  rintro ao do_ _ _ _ _ _ _ _ _ ⟨rfl, hao, hdo⟩
  dsimp only at hd hu hla hits hdk hvl hrl hao hdo hx hov
  refine wpAny_call ?_
  k_dflt ktr_enter
  w_strict (
    walk_at "norm"
    rename_i g1 L1 h1 FG1 F1 N1 B1 X1 T1
    (replace F1 := fr_lk [(Str.ofString "negate", .ref 433), (Str.ofString "make", .ref 426), (Str.ofString "known", .ref dk), (Str.ofString "items", .ref la), (Str.ofString "op", .ref ao)] F1)
    (dsimp only [lkm] at F1)
    (repeat' (first | ((fail_if_success (with_reducible (first | refine tW ?_ | refine tI ?_ | refine tF ?_ | refine tC ?_ | refine tX ?_ | refine tR 394 ?_ | refine tR 349 ?_ | refine tR 426 ?_ | refine tR 433 ?_ | refine tR 314 ?_ | refine tR 321 ?_ | refine tR 377 ?_ | refine tR 370 ?_ | refine tR 286 ?_ | refine tR 384 ?_ | refine tR 391 ?_ | refine tR 45 ?_ | refine tR 475 ?_ | refine tR 482 ?_ | refine tR 489 ?_ | refine tR 496 ?_ | refine tR 503 ?_ | refine tR 510 ?_))); first | ((with_reducible show WhileStep2 _ _ _ _ _ _ (Flow.ret _) _); dsimp only [WhileStep2]) | ((with_reducible show TurnP _ _ _ _ _ _ _ _ _ (Flow.ret _) _); dsimp only [TurnP]) | (k_unfold; (try dsimp only)) | (k_end; first | refine' next_q (by with_reducible assumption) ?_ | refine' ret_q (by with_reducible assumption) ?_ | refine' brk_q (by with_reducible assumption) ?_ | refine' cont_q (by with_reducible assumption) ?_) | (k_end; wrow_close) | walk1 | (dsimp only; walk1) | (leave1; walk_say "STEP leave1"; try dsimp only)) | fail "no step"))
    (rename Fr _ _ _ _ => F2)
    (rename News _ _ _ _ => N2)
    refine' hNb mean mg mb _ _ _ _ _ _ _ [] _ _ _ _ _ _ M P _ T _ _ _ (by k_asm) F2 (by k_asm) N2 (by k_asm) rfl hkn (by ktr_room) (by ktr_units) ?_
    rintro b P3 h3 tk3 ol wl k1 k2 F3 N3 hg3 hs3
    (try clear N2); (try clear F2); (try clear N1)
    refine el14 (id hs3.bnd) ?_
    rintro ab db _ _ _ _ _ _ _ _ _ _ _ kv3 ⟨rfl, hab, hdb, hkn3⟩
    have hao3 := hg3.sub _ hao
    have hdo3 := hg3.sub _ hdo
    (repeat' (first | ((fail_if_success (with_reducible (first | refine tW ?_ | refine tI ?_ | refine tF ?_ | refine tC ?_ | refine tX ?_ | refine tR 394 ?_ | refine tR 349 ?_ | refine tR 426 ?_ | refine tR 433 ?_ | refine tR 314 ?_ | refine tR 321 ?_ | refine tR 377 ?_ | refine tR 370 ?_ | refine tR 286 ?_ | refine tR 384 ?_ | refine tR 391 ?_ | refine tR 45 ?_ | refine tR 475 ?_ | refine tR 482 ?_ | refine tR 489 ?_ | refine tR 496 ?_ | refine tR 503 ?_ | refine tR 510 ?_))); first | ((with_reducible show WhileStep2 _ _ _ _ _ _ (Flow.ret _) _); dsimp only [WhileStep2]) | ((with_reducible show TurnP _ _ _ _ _ _ _ _ _ (Flow.ret _) _); dsimp only [TurnP]) | (k_unfold; (try dsimp only)) | (k_end; first | refine' next_q (by with_reducible assumption) ?_ | refine' ret_q (by with_reducible assumption) ?_ | refine' brk_q (by with_reducible assumption) ?_ | refine' cont_q (by with_reducible assumption) ?_) | (k_end; wrow_close) | walk1 | (dsimp only; walk1) | (leave1; walk_say "STEP leave1"; try dsimp only)) | fail "no step"))
    (rename Fr _ _ _ _ => F8)
    (rename News _ _ _ _ => N8)
    refine' hOp.use M P3 x (by k_asm) F8 (by k_asm) N8 sub0 (by k_asm) rfl hs3 (Nat.zero_le _) ⟨_, rfl, hov.mono hg3.sub, hx⟩ (by ktr_room) (by ktr_units) ?_ ?_
    rotate_left
    · intro e9 h9 G9 tk9 hF9 hR9 hU9 hz9
      exact absurd hz9 (by simp)
    rintro P9 h9 tk9 vs9 ws9 k8 k9 S9 W9 F9 N9 hg9 hst9 hrun9
    obtain ⟨rfl, rfl⟩ := Prod.mk.inj (Option.some.inj hrun9)
    have hab9 := hg9.sub _ hab
    have hdb9 := hg9.sub _ hdb
    have hgA := hg3.bl hg9
    (try clear N8); (try clear F8); (try clear N3); (try clear F3)
    (repeat' (first | ((fail_if_success (with_reducible (first | refine tW ?_ | refine tI ?_ | refine tF ?_ | refine tC ?_ | refine tX ?_ | refine tR 394 ?_ | refine tR 349 ?_ | refine tR 426 ?_ | refine tR 433 ?_ | refine tR 314 ?_ | refine tR 321 ?_ | refine tR 377 ?_ | refine tR 370 ?_ | refine tR 286 ?_ | refine tR 384 ?_ | refine tR 391 ?_ | refine tR 45 ?_ | refine tR 475 ?_ | refine tR 482 ?_ | refine tR 489 ?_ | refine tR 496 ?_ | refine tR 503 ?_ | refine tR 510 ?_))); first | ((with_reducible show WhileStep2 _ _ _ _ _ _ (Flow.ret _) _); dsimp only [WhileStep2]) | ((with_reducible show TurnP _ _ _ _ _ _ _ _ _ (Flow.ret _) _); dsimp only [TurnP]) | (k_unfold; (try dsimp only)) | (k_end; first | refine' next_q (by with_reducible assumption) ?_ | refine' ret_q (by with_reducible assumption) ?_ | refine' brk_q (by with_reducible assumption) ?_ | refine' cont_q (by with_reducible assumption) ?_) | (k_end; wrow_close) | walk1 | (dsimp only; walk1) | (leave1; walk_say "STEP leave1"; try dsimp only)) | fail "no step"))
    (rename Fr _ _ _ _ => F4)
    (rename News _ _ _ _ => N4)
    refine' hTk.use M P9 row (by k_asm) F4 (by k_asm) N4 sub0 (by k_asm) rfl hst9 ⟨rfl, by simp⟩ ⟨la, ivs, nn, rfl, hgA.sub _ hla, hits.mono hgA.sub, hvl, hrl⟩ (by ktr_room) (by ktr_units) ?_ ?_
    rotate_left
    · intro e9 h9 G9 tk9 hF9 hR9 hU9 hz9
      ((show wpAny _ _ (leaving _ _) _ _ _); refine' leave_onSN ?Kq18 ?Fq18 ?Rq18 ?Uq18 ?_; (case Rq18 => assumption); (case Kq18 => assumption); (case Fq18 => assumption); (case Uq18 => assumption); intro zh5 zR5 _ zU5)
      exact hrz _ _ _ _ (by assumption) (RaisedSN.less (by assumption) (fun p hp => (List.mem_append.mp hp).elim (fun hp =>  (List.mem_append_left _ hp)) (fun hp =>  (List.mem_append_right _ (hgA.sub _ hp))))) (by assumption) (bound_none hz9)
    rintro P5 h5 tk5 vs5 ws5 k5 k6 S5 W5 F5 N5 hg5 hs5 hrun
    have hl := take_len (d := true) (by exact hvl) hrun (by rfl)
    obtain ⟨t, ht⟩ := whole_some (take_ok hrun (by rfl)) hl.1
    have hab5 := hg5.sub _ hab9
    have hdb5 := hg5.sub _ hdb9
    (try clear N4); (try clear F4)
    (repeat' (first | ((fail_if_success (with_reducible (first | refine tW ?_ | refine tI ?_ | refine tF ?_ | refine tC ?_ | refine tX ?_ | refine tR 394 ?_ | refine tR 349 ?_ | refine tR 426 ?_ | refine tR 433 ?_ | refine tR 314 ?_ | refine tR 321 ?_ | refine tR 377 ?_ | refine tR 370 ?_ | refine tR 286 ?_ | refine tR 384 ?_ | refine tR 391 ?_ | refine tR 45 ?_ | refine tR 475 ?_ | refine tR 482 ?_ | refine tR 489 ?_ | refine tR 496 ?_ | refine tR 503 ?_ | refine tR 510 ?_))); first | ((with_reducible show WhileStep2 _ _ _ _ _ _ (Flow.ret _) _); dsimp only [WhileStep2]) | ((with_reducible show TurnP _ _ _ _ _ _ _ _ _ (Flow.ret _) _); dsimp only [TurnP]) | (k_unfold; (try dsimp only)) | (k_end; first | refine' next_q (by with_reducible assumption) ?_ | refine' ret_q (by with_reducible assumption) ?_ | refine' brk_q (by with_reducible assumption) ?_ | refine' cont_q (by with_reducible assumption) ?_) | (k_end; wrow_close) | walk1 | (dsimp only; walk1) | (leave1; walk_say "STEP leave1"; try dsimp only)) | fail "no step"))
    (rename Fr _ _ _ _ => F6)
    (rename News _ _ _ _ => N6)
    refine' hWh mean mg mb _ _ _ _ _ _ _ [] _ _ _ _ _ _ M P5 _ T _ _ _ _ _ _ _ _ _ t _ _ (by k_asm) F6 (by k_asm) N6 (by k_asm) rfl hs5 ht hl.1 (by ktr_room) (by ktr_units) ?_
    rintro r P7 h7 tk7 F7 N7 hg7 hn
    (repeat' (first | ((fail_if_success (with_reducible (first | refine tW ?_ | refine tI ?_ | refine tF ?_ | refine tC ?_ | refine tX ?_ | refine tR 394 ?_ | refine tR 349 ?_ | refine tR 426 ?_ | refine tR 433 ?_ | refine tR 314 ?_ | refine tR 321 ?_ | refine tR 377 ?_ | refine tR 370 ?_ | refine tR 286 ?_ | refine tR 384 ?_ | refine tR 391 ?_ | refine tR 45 ?_ | refine tR 475 ?_ | refine tR 482 ?_ | refine tR 489 ?_ | refine tR 496 ?_ | refine tR 503 ?_ | refine tR 510 ?_))); first | ((with_reducible show WhileStep2 _ _ _ _ _ _ (Flow.ret _) _); dsimp only [WhileStep2]) | ((with_reducible show TurnP _ _ _ _ _ _ _ _ _ (Flow.ret _) _); dsimp only [TurnP]) | (k_unfold; (try dsimp only)) | (k_end; first | refine' next_q (by with_reducible assumption) ?_ | refine' ret_q (by with_reducible assumption) ?_ | refine' brk_q (by with_reducible assumption) ?_ | refine' cont_q (by with_reducible assumption) ?_) | (k_end; wrow_close) | walk1 | (dsimp only; walk1) | (leave1; walk_say "STEP leave1"; try dsimp only)) | fail "no step"))
    have g := (hgA.bl hg5).bl hg7
    exact hret _ _ _ _ (by assumption) (by assumption) g.sub g.fr ⟨t, (bound_some hrun).trans ht, hn⟩)
theorem bound_left_spec (w : World) (hNb : NewBinderS w) (hFx : FixityInS w) (hSe : SettleS w) (hTk : TakeS w) : BoundLeftS w := by
  unfold BoundLeftS RSpec
  k_fill
  rintro mean mg mb dp un gd cn cs a ccd cl outer A₀ base h₀ L m M P s vs ⟨T, row, x⟩ Q E B F X N TT hk hDD1 hd hu hret hrz
  refine el3 hDD1 ?_
  clear hDD1
  rintro iv ov kv ⟨rfl, hit, hkn, hov, hx, hvl, hrl⟩
  refine el3 (id hit) ?_
  rintro la ivs nn ⟨rfl, hla, hits⟩
  refine el3 (id hkn) ?_
  rintro dk ok kvs ⟨rfl, hdk, -⟩
  refine el10 (id hov) ?_
  rintro ao do_ _ _ _ _ _ _ _ _ ⟨rfl, hao, hdo⟩
  dsimp only at hd hu hla hits hdk hvl hrl hao hdo hx hov
  refine wpAny_call ?_
  k_dflt ktr_enter
  w_strict (
    walk_at "norm"
    rename_i g1 L1 h1 FG1 F1 N1 B1 X1 T1
    (replace F1 := fr_lk [(Str.ofString "negate", .ref 433), (Str.ofString "make", .ref 426), (Str.ofString "known", .ref dk), (Str.ofString "op", .ref ao), (Str.ofString "items", .ref la)] F1)
    (dsimp only [lkm] at F1)
    (repeat' (first | ((fail_if_success (with_reducible (first | refine tW ?_ | refine tI ?_ | refine tF ?_ | refine tC ?_ | refine tX ?_ | refine tR 394 ?_ | refine tR 349 ?_ | refine tR 426 ?_ | refine tR 433 ?_ | refine tR 314 ?_ | refine tR 321 ?_ | refine tR 377 ?_ | refine tR 370 ?_ | refine tR 286 ?_ | refine tR 384 ?_ | refine tR 391 ?_ | refine tR 45 ?_ | refine tR 475 ?_ | refine tR 482 ?_ | refine tR 489 ?_ | refine tR 496 ?_ | refine tR 503 ?_ | refine tR 510 ?_))); first | ((with_reducible show WhileStep2 _ _ _ _ _ _ (Flow.ret _) _); dsimp only [WhileStep2]) | ((with_reducible show TurnP _ _ _ _ _ _ _ _ _ (Flow.ret _) _); dsimp only [TurnP]) | (k_unfold; (try dsimp only)) | (k_end; first | refine' next_q (by with_reducible assumption) ?_ | refine' ret_q (by with_reducible assumption) ?_ | refine' brk_q (by with_reducible assumption) ?_ | refine' cont_q (by with_reducible assumption) ?_) | (k_end; wrow_close) | walk1 | (dsimp only; walk1) | (leave1; walk_say "STEP leave1"; try dsimp only)) | fail "no step"))
    (rename Fr _ _ _ _ => F2)
    (rename News _ _ _ _ => N2)
    refine' hNb mean mg mb _ _ _ _ _ _ _ [] _ _ _ _ _ _ M P _ T _ _ _ (by k_asm) F2 (by k_asm) N2 (by k_asm) rfl hkn (by ktr_room) (by ktr_units) ?_
    rintro b P3 h3 tk3 ol wl k1 k2 F3 N3 hg3 hs3
    (try clear N2); (try clear F2); (try clear N1)
    refine el14 (id hs3.bnd) ?_
    rintro ab db _ _ _ _ _ _ _ _ _ _ _ kv3 ⟨rfl, hab, hdb, hkn3⟩
    have hao3 := hg3.sub _ hao
    have hdo3 := hg3.sub _ hdo
    (repeat' (first | ((fail_if_success (with_reducible (first | refine tW ?_ | refine tI ?_ | refine tF ?_ | refine tC ?_ | refine tX ?_ | refine tR 394 ?_ | refine tR 349 ?_ | refine tR 426 ?_ | refine tR 433 ?_ | refine tR 314 ?_ | refine tR 321 ?_ | refine tR 377 ?_ | refine tR 370 ?_ | refine tR 286 ?_ | refine tR 384 ?_ | refine tR 391 ?_ | refine tR 45 ?_ | refine tR 475 ?_ | refine tR 482 ?_ | refine tR 489 ?_ | refine tR 496 ?_ | refine tR 503 ?_ | refine tR 510 ?_))); first | ((with_reducible show WhileStep2 _ _ _ _ _ _ (Flow.ret _) _); dsimp only [WhileStep2]) | ((with_reducible show TurnP _ _ _ _ _ _ _ _ _ (Flow.ret _) _); dsimp only [TurnP]) | (k_unfold; (try dsimp only)) | (k_end; first | refine' next_q (by with_reducible assumption) ?_ | refine' ret_q (by with_reducible assumption) ?_ | refine' brk_q (by with_reducible assumption) ?_ | refine' cont_q (by with_reducible assumption) ?_) | (k_end; wrow_close) | walk1 | (dsimp only; walk1) | (leave1; walk_say "STEP leave1"; try dsimp only)) | fail "no step"))
    (rename Fr _ _ _ _ => F4)
    (rename News _ _ _ _ => N4)
    refine' hTk.use M P3 row (by k_asm) F4 (by k_asm) N4 sub0 (by k_asm) rfl hs3 ⟨rfl, Nat.zero_le _⟩ ⟨la, ivs, nn, rfl, hg3.sub _ hla, hits.mono hg3.sub, hvl, hrl⟩ (by ktr_room) (by ktr_units) ?_ ?_
    rotate_left
    · intro e9 h9 G9 tk9 hF9 hR9 hU9 hz9
      ((show wpAny _ _ (leaving _ _) _ _ _); refine' leave_onSN ?Kq19 ?Fq19 ?Rq19 ?Uq19 ?_; (case Rq19 => assumption); (case Kq19 => assumption); (case Fq19 => assumption); (case Uq19 => assumption); intro zh5 zR5 _ zU5)
      exact hrz _ _ _ _ (by assumption) (RaisedSN.less (by assumption) (fun p hp => (List.mem_append.mp hp).elim (fun hp =>  (List.mem_append_left _ hp)) (fun hp =>  (List.mem_append_right _ (hg3.sub _ hp))))) (by assumption) (left_none hz9)
    rintro P5 h5 tk5 vs5 ws5 k5 k6 S5 W5 F5 N5 hg5 hs5 hrun
    have hl := take_len (d := true) (by exact hvl) hrun (by rfl)
    have hab5 := hg5.sub _ hab
    have hdb5 := hg5.sub _ hdb
    have hao5 := hg5.sub _ hao3
    have hdo5 := hg5.sub _ hdo3
    have hgA := hg3.bl hg5
    (try clear N4); (try clear F4)
    (repeat' (first | ((fail_if_success (with_reducible (first | refine tW ?_ | refine tI ?_ | refine tF ?_ | refine tC ?_ | refine tX ?_ | refine tR 394 ?_ | refine tR 349 ?_ | refine tR 426 ?_ | refine tR 433 ?_ | refine tR 314 ?_ | refine tR 321 ?_ | refine tR 377 ?_ | refine tR 370 ?_ | refine tR 286 ?_ | refine tR 384 ?_ | refine tR 391 ?_ | refine tR 45 ?_ | refine tR 475 ?_ | refine tR 482 ?_ | refine tR 489 ?_ | refine tR 496 ?_ | refine tR 503 ?_ | refine tR 510 ?_))); first | ((with_reducible show WhileStep2 _ _ _ _ _ _ (Flow.ret _) _); dsimp only [WhileStep2]) | ((with_reducible show TurnP _ _ _ _ _ _ _ _ _ (Flow.ret _) _); dsimp only [TurnP]) | (k_unfold; (try dsimp only)) | (k_end; first | refine' next_q (by with_reducible assumption) ?_ | refine' ret_q (by with_reducible assumption) ?_ | refine' brk_q (by with_reducible assumption) ?_ | refine' cont_q (by with_reducible assumption) ?_) | (k_end; wrow_close) | walk1 | (dsimp only; walk1) | (leave1; walk_say "STEP leave1"; try dsimp only)) | fail "no step"))
    (rename Fr _ _ _ _ => F6)
    (rename News _ _ _ _ => N6)
    refine' hFx.use (_ :: _ :: M) P5 (T, x) (by k_asm) F6 (by k_asm) N6 sub0 (by k_asm) rfl ⟨_, _, rfl, hkn.mono hgA.sub, hx⟩ (by ktr_room) (by ktr_units) ?_
    rintro fv P7 h7 tk7 F7 N7 hs7 hf7 hfix
    have hgB : Gr (BL ol wl vs5 ws5 k5 k6 (M ++ P5)) P5 P7 := ⟨hs7, hf7⟩
    have N8 : News g1 L1 h7 ((ol, listOf vs5.toArray k5) :: (wl, listOf ws5.toArray k6) :: (M ++ P7)) := N7
    have hst7 := hs5.grow hgB
    have hab7 := hs7 _ hab5
    have hdb7 := hs7 _ hdb5
    have hao7 := hs7 _ hao5
    have hdo7 := hs7 _ hdo5
    have hgC := hgA.bl hgB
    refine el9 (id hfix) ?_
    rintro af df _ _ _ _ _ _ _ ⟨rfl, haf, hdf⟩
    (try clear N7); (try clear N6); (try clear F6)
    (repeat' (first | ((fail_if_success (with_reducible (first | refine tW ?_ | refine tI ?_ | refine tF ?_ | refine tC ?_ | refine tX ?_ | refine tR 394 ?_ | refine tR 349 ?_ | refine tR 426 ?_ | refine tR 433 ?_ | refine tR 314 ?_ | refine tR 321 ?_ | refine tR 377 ?_ | refine tR 370 ?_ | refine tR 286 ?_ | refine tR 384 ?_ | refine tR 391 ?_ | refine tR 45 ?_ | refine tR 475 ?_ | refine tR 482 ?_ | refine tR 489 ?_ | refine tR 496 ?_ | refine tR 503 ?_ | refine tR 510 ?_))); first | ((with_reducible show WhileStep2 _ _ _ _ _ _ (Flow.ret _) _); dsimp only [WhileStep2]) | ((with_reducible show TurnP _ _ _ _ _ _ _ _ _ (Flow.ret _) _); dsimp only [TurnP]) | (k_unfold; (try dsimp only)) | (k_end; first | refine' next_q (by with_reducible assumption) ?_ | refine' ret_q (by with_reducible assumption) ?_ | refine' brk_q (by with_reducible assumption) ?_ | refine' cont_q (by with_reducible assumption) ?_) | (k_end; wrow_close) | walk1 | (dsimp only; walk1) | (leave1; walk_say "STEP leave1"; try dsimp only)) | fail "no step"))
    (rename Fr _ _ _ _ => F8)
    (rename News _ _ _ _ => N8)
    refine' hSe.use M P7 (T.get x) (by k_asm) F8 (by k_asm) N8 sub0 (by k_asm) rfl hst7 hl.1 ⟨_, _, rfl, hfix⟩ (by ktr_room) (by ktr_units) ?_ ?_
    rotate_left
    · intro e9 h9 G9 tk9 hF9 hR9 hU9 hz9
      ((show wpAny _ _ (leaving _ _) _ _ _); refine' leave_onSN ?Kq20 ?Fq20 ?Rq20 ?Uq20 ?_; (case Rq20 => assumption); (case Kq20 => assumption); (case Fq20 => assumption); (case Uq20 => assumption); intro zh5 zR5 _ zU5)
      exact hrz _ _ _ _ (by assumption) (RaisedSN.less (by assumption) (fun p hp => (List.mem_append.mp hp).elim (fun hp =>  (List.mem_append_left _ hp)) (fun hp =>  (List.mem_append_right _ (hgC.sub _ hp))))) (by assumption) (left_none2 hrun hz9)
    rintro P9 h9 tk9 vs9 ws9 k8 k9 S9 W9 F9 N9 hg9 hst9 hrun9
    have hl9 := settle_len hrun9 hl.1
    have hab9 := hg9.sub _ hab7
    have hdb9 := hg9.sub _ hdb7
    have hao9 := hg9.sub _ hao7
    have hdo9 := hg9.sub _ hdo7
    have hgD := hgC.bl hg9
    (try clear N8); (try clear F8)
    have hst10 := hst9
    obtain ⟨hb9, hS9, hW9, hne9, hoo9, how9, hrm9⟩ := hst9
    cases hW9 with
    | nil =>
      cases hS9 with
      | nil => simp [bins] at hl9
      | @snoc vs' S' v t hS' hn =>
        cases hS' with
        | @snoc _ _ _ _ _ _ => simp [bins] at hl9
        | nil =>
          (repeat' (first | ((fail_if_success (with_reducible (first | refine tW ?_ | refine tI ?_ | refine tF ?_ | refine tC ?_ | refine tX ?_ | refine tR 394 ?_ | refine tR 349 ?_ | refine tR 426 ?_ | refine tR 433 ?_ | refine tR 314 ?_ | refine tR 321 ?_ | refine tR 377 ?_ | refine tR 370 ?_ | refine tR 286 ?_ | refine tR 384 ?_ | refine tR 391 ?_ | refine tR 45 ?_ | refine tR 475 ?_ | refine tR 482 ?_ | refine tR 489 ?_ | refine tR 496 ?_ | refine tR 503 ?_ | refine tR 510 ?_))); first | ((with_reducible show WhileStep2 _ _ _ _ _ _ (Flow.ret _) _); dsimp only [WhileStep2]) | ((with_reducible show TurnP _ _ _ _ _ _ _ _ _ (Flow.ret _) _); dsimp only [TurnP]) | (k_unfold; (try dsimp only)) | (k_end; first | refine' next_q (by with_reducible assumption) ?_ | refine' ret_q (by with_reducible assumption) ?_ | refine' brk_q (by with_reducible assumption) ?_ | refine' cont_q (by with_reducible assumption) ?_) | (k_end; wrow_close) | walk1 | (dsimp only; walk1) | (leave1; walk_say "STEP leave1"; try dsimp only)) | fail "no step"))
          (rename News h₀ _ _ _ => N10)
          exact hret _ P9 _ _ (by assumption) (nsub N10 fun p hp => .tail _ (.tail _ (.tail _ hp))) hgD.sub hgD.fr ⟨t, left_some hrun hrun9, hn⟩
    | @snoc ws' W' v wt hW' hw =>
      (repeat' (first | ((fail_if_success (with_reducible (first | refine tW ?_ | refine tI ?_ | refine tF ?_ | refine tC ?_ | refine tX ?_ | refine tR 394 ?_ | refine tR 349 ?_ | refine tR 426 ?_ | refine tR 433 ?_ | refine tR 314 ?_ | refine tR 321 ?_ | refine tR 377 ?_ | refine tR 370 ?_ | refine tR 286 ?_ | refine tR 384 ?_ | refine tR 391 ?_ | refine tR 45 ?_ | refine tR 475 ?_ | refine tR 482 ?_ | refine tR 489 ?_ | refine tR 496 ?_ | refine tR 503 ?_ | refine tR 510 ?_))); first | ((with_reducible show WhileStep2 _ _ _ _ _ _ (Flow.ret _) _); dsimp only [WhileStep2]) | ((with_reducible show TurnP _ _ _ _ _ _ _ _ _ (Flow.ret _) _); dsimp only [TurnP]) | (k_unfold; (try dsimp only)) | (k_end; first | refine' next_q (by with_reducible assumption) ?_ | refine' ret_q (by with_reducible assumption) ?_ | refine' brk_q (by with_reducible assumption) ?_ | refine' cont_q (by with_reducible assumption) ?_) | (k_end; wrow_close) | walk1 | (dsimp only; walk1) | (leave1; walk_say "STEP leave1"; try dsimp only)) | fail "no step"))
      ((k_here; refine' raise_own (by rfl) ?_; k_whole); (repeat' (first | ((fail_if_success (with_reducible (first | refine tW ?_ | refine tI ?_ | refine tF ?_ | refine tC ?_ | refine tX ?_ | refine tR 394 ?_ | refine tR 349 ?_ | refine tR 426 ?_ | refine tR 433 ?_ | refine tR 314 ?_ | refine tR 321 ?_ | refine tR 377 ?_ | refine tR 370 ?_ | refine tR 286 ?_ | refine tR 384 ?_ | refine tR 391 ?_ | refine tR 45 ?_ | refine tR 475 ?_ | refine tR 482 ?_ | refine tR 489 ?_ | refine tR 496 ?_ | refine tR 503 ?_ | refine tR 510 ?_))); first | ((with_reducible show WhileStep2 _ _ _ _ _ _ (Flow.ret _) _); dsimp only [WhileStep2]) | ((with_reducible show TurnP _ _ _ _ _ _ _ _ _ (Flow.ret _) _); dsimp only [TurnP]) | (k_unfold; (try dsimp only)) | (k_end; first | refine' next_q (by with_reducible assumption) ?_ | refine' ret_q (by with_reducible assumption) ?_ | refine' brk_q (by with_reducible assumption) ?_ | refine' cont_q (by with_reducible assumption) ?_) | (k_end; wrow_close) | walk1 | (dsimp only; walk1) | (leave1; walk_say "STEP leave1"; try dsimp only)) | fail "no step")); (refine' fix_call (cl := []) ?Bq21 ?Fq21 ?Xq21 ?Nq21 ?Tq21 rfl ?dq21 ?_; (case Bq21 => assumption); (case Fq21 => assumption); (case Xq21 => assumption); (case Nq21 => assumption); (case Tq21 => assumption); (case dq21 => ktr_room); intro zh3 ztk3 ze3 za3 zd3 zF3 zN3 zl3; refine' ⟨ze3, za3, zd3, rfl, ⟨_, _, _, _, by assumption, zF3, rfl⟩, (zN3 _ (.head _)).1, ?_⟩; (show wpAny _ _ (leaving _ _) _ _ _); refine' leave_ownS ?Kq21 zF3 zN3 (fun p hp => Nat.ne_of_lt (zl3 p hp)) ?_; (case Kq21 => assumption); intro zh4 zR4 zU4))
      exact hrz _ _ _ _ (by assumption) (RaisedSN.less (by assumption) (fun p hp => .tail _ (.tail _ (.tail _ ((List.mem_append.mp hp).elim (fun hp => List.mem_append_left _ hp) (fun hp => List.mem_append_right _ (hgD.sub _ hp))))))) (by assumption) (left_none3 hrun hrun9))

end
section
theorem new_op_spec (w : World) : NewOpS w := by
  unfold NewOpS Spec
  k_fill
  rintro mean mg mb dp un gd cn cs a ccd cl outer A₀ base h₀ L m M P s vs x Q E B F X N TT hk ⟨t, rfl⟩ hd hu hret
  dsimp only at hd hu
  w_strict (
    walk_at "norm"
    (k_here; refine' call_cls (by k_asm) (by k_asm) (by k_asm) (by k_is) (by k_is) (by k_is) ?_; k_whole; intro zx2 zd2 zh2 zF2 zN2 zl2 zm2; (try k_lt zl2); (try k_lt2 zm2); (try k_sweep); k_dflt (first | ktr_enter | (refine' code_def ?zek1q23 ?zek2q23 ?zek3q23 ?zek4q23 ?zek5q23 ?zekAq23 ?zekFq23 ?zekKq23 ?zek6q23 ?zek7q23 ?zek8q23 ?zek9q23 ?zekBq23 ?_ ?zec2q23 ?zec3q23 ?zec4q23 ?zec5q23; (case zekAq23 => exact rfl); (case zekFq23 => exact rfl); (case zekKq23 => assumption); (case zek1q23 => k_asm); (case zek2q23 => k_asm); (case zek3q23 => k_asm); (case zek4q23 => k_asm); (case zek5q23 => k_asm); (case zek6q23 => k_is); (case zek7q23 => k_is); (case zek8q23 => ktr_room); (case zek9q23 => exact binds_K (by k_in) rfl (by k_is) rfl rfl rfl); (case zec5q23 => decide); (case zekBq23 => exact locs rfl); (case zec2q23 => exact rfl); (case zec3q23 => exact rfl); (case zec4q23 => exact rfl); k_whole; intro zg1 zL1 zh1 zFG zF1 zN1 zB1 zX1 zT1; (try dsimp only); (try k_fold))))
    (repeat' (first | ((fail_if_success (with_reducible (first | refine tW ?_ | refine tI ?_ | refine tF ?_ | refine tC ?_ | refine tX ?_ | refine tR 426 ?_ | refine tR 433 ?_ | refine tR 314 ?_ | refine tR 321 ?_ | refine tR 377 ?_ | refine tR 370 ?_ | refine tR 286 ?_ | refine tR 384 ?_ | refine tR 391 ?_ | refine tR 45 ?_ | refine tR 475 ?_ | refine tR 482 ?_ | refine tR 489 ?_ | refine tR 496 ?_ | refine tR 503 ?_ | refine tR 510 ?_))); first | ((with_reducible show WhileStep2 _ _ _ _ _ _ (Flow.ret _) _); dsimp only [WhileStep2]) | ((with_reducible show TurnP _ _ _ _ _ _ _ _ _ (Flow.ret _) _); dsimp only [TurnP]) | (k_unfold; (try dsimp only)) | (k_end; first | refine' next_q (by with_reducible assumption) ?_ | refine' ret_q (by with_reducible assumption) ?_ | refine' brk_q (by with_reducible assumption) ?_ | refine' cont_q (by with_reducible assumption) ?_) | (k_end; wrow_close) | walk1 | (dsimp only; walk1) | (leave1; walk_say "STEP leave1"; try dsimp only)) | fail "no step"))
    refine hret _ _ _ _ (by assumption) (nsub (by assumption) mv2) (Gr.refl.inst (by assumption) (by assumption)).sub (Gr.refl.inst (by assumption) (by assumption)).fr ?_
    show OpIn _ _ _
    unfold OpIn
    rw [← nm_beq x .col]
    exact ⟨_, _, _, _, _, _, _, _, _, _, rfl, .head _, .tail _ (.head _)⟩)
theorem new_lit_spec (w : World) : NewLitS w := by
  unfold NewLitS Spec
  k_fill
  rintro mean mg mb dp un gd cn cs a ccd cl outer A₀ base h₀ L m M P s vs i Q E B F X N TT hk hDD1 hd hu hret
  obtain ⟨t, u, rfl⟩ := hDD1
  dsimp only at hd hu
  w_strict (
    walk_at "norm"
    (k_here; refine' call_cls (by k_asm) (by k_asm) (by k_asm) (by k_is) (by k_is) (by k_is) ?_; k_whole; intro zx2 zd2 zh2 zF2 zN2 zl2 zm2; (try k_lt zl2); (try k_lt2 zm2); (try k_sweep); k_dflt (first | ktr_enter | (refine' code_def ?zek1q25 ?zek2q25 ?zek3q25 ?zek4q25 ?zek5q25 ?zekAq25 ?zekFq25 ?zekKq25 ?zek6q25 ?zek7q25 ?zek8q25 ?zek9q25 ?zekBq25 ?_ ?zec2q25 ?zec3q25 ?zec4q25 ?zec5q25; (case zekAq25 => exact rfl); (case zekFq25 => exact rfl); (case zekKq25 => assumption); (case zek1q25 => k_asm); (case zek2q25 => k_asm); (case zek3q25 => k_asm); (case zek4q25 => k_asm); (case zek5q25 => k_asm); (case zek6q25 => k_is); (case zek7q25 => k_is); (case zek8q25 => ktr_room); (case zek9q25 => exact binds_K (by k_in) rfl (by k_is) rfl rfl rfl); (case zec5q25 => decide); (case zekBq25 => exact locs rfl); (case zec2q25 => exact rfl); (case zec3q25 => exact rfl); (case zec4q25 => exact rfl); k_whole; intro zg1 zL1 zh1 zFG zF1 zN1 zB1 zX1 zT1; (try dsimp only); (try k_fold))))
    (repeat' (first | ((fail_if_success (with_reducible (first | refine tW ?_ | refine tI ?_ | refine tF ?_ | refine tC ?_ | refine tX ?_ | refine tR 426 ?_ | refine tR 433 ?_ | refine tR 314 ?_ | refine tR 321 ?_ | refine tR 377 ?_ | refine tR 370 ?_ | refine tR 286 ?_ | refine tR 384 ?_ | refine tR 391 ?_ | refine tR 45 ?_ | refine tR 475 ?_ | refine tR 482 ?_ | refine tR 489 ?_ | refine tR 496 ?_ | refine tR 503 ?_ | refine tR 510 ?_))); first | ((with_reducible show WhileStep2 _ _ _ _ _ _ (Flow.ret _) _); dsimp only [WhileStep2]) | ((with_reducible show TurnP _ _ _ _ _ _ _ _ _ (Flow.ret _) _); dsimp only [TurnP]) | (k_unfold; (try dsimp only)) | (k_end; first | refine' next_q (by with_reducible assumption) ?_ | refine' ret_q (by with_reducible assumption) ?_ | refine' brk_q (by with_reducible assumption) ?_ | refine' cont_q (by with_reducible assumption) ?_) | (k_end; wrow_close) | walk1 | (dsimp only; walk1) | (leave1; walk_say "STEP leave1"; try dsimp only)) | fail "no step"))
    exact hret _ _ _ _ (by assumption) (nsub (by assumption) mv2) (Gr.refl.inst (by assumption) (by assumption)).sub (Gr.refl.inst (by assumption) (by assumption)).fr (.lit (.head _) (.tail _ (.head _))))
theorem fr_drop3 {a b c : Addr × Obj} {M P P2 : Led} (h : ∀ p ∈ P2, p ∈ P ∨ ∀ q ∈ (a :: b :: c :: M) ++ P, q.1 ≠ p.1) : ∀ p ∈ P2, p ∈ P ∨ ∀ q ∈ M ++ P, q.1 ≠ p.1 :=
  fun p hp => (h p hp).imp id fun k q hq => k q (.tail _ (.tail _ (.tail _ hq)))
theorem fr_one {D : Addr} {o : Obj} {M P Pi : Led} (g : Gr (M ++ P) P Pi) (off : LCg.Off1 D (M ++ Pi)) : ∀ p ∈ (D, o) :: Pi, p ∈ P ∨ ∀ q ∈ M ++ P, q.1 ≠ p.1 := by
  intro p hp
  rcases List.mem_cons.mp hp with rfl | hp
  · refine .inr fun q hq => ?_
    have key : ∀ l : Led, LCg.Off1 D l → ∀ r ∈ l, r.1 ≠ D := by
      intro l
      induction l with
      | nil => intro _ r hr; cases hr
      | cons a l ih =>
        intro h r hr
        rcases List.mem_cons.mp hr with rfl | hr
        · exact h.1
        · exact ih h.2 r hr
    refine key _ off q ?_
    rcases List.mem_append.mp hq with h | h
    · exact List.mem_append_left _ h
    · exact List.mem_append_right _ (g.sub q h)
  · exact g.fr p hp
theorem itms_step {P : Led} {i : Nat} {row : List It} {it : It} {ys : List Value} {v : Value} (h : ItmsAre P ys (row.take i)) (hit : row[i]? = some it) (hv : ItmIn P v it) : ItmsAre P (ys ++ [v]) (row.take (i + 1)) := by
  rw [List.take_add_one, hit]
  exact h.snoc hv
theorem law_items_spec (w : World) (hOp : NewOpS w) (hLi : NewLitS w) : LawItemsS w := by
  unfold LawItemsS Spec
  k_fill
  rintro mean mg mb dp un gd cn cs a ccd cl outer A₀ base h₀ L m M P s vs row Q E B F X N TT hk hDD1 hd hu hret
  obtain ⟨rv, rfl, ⟨ra, ws, nn, rfl, hra, hws⟩, hrl⟩ := hDD1
  dsimp only at hd hu
  refine wpAny_call ?_
  k_dflt ktr_enter
  w_strict (
    walk_at "norm"
    rename_i g1 L1 h1 FG1 F1 N1 B1 X1 T1
    (replace F1 := fr_lk [(Str.ofString "row", .ref ra)] F1)
    (dsimp only [lkm] at F1)
    (repeat' (first | ((fail_if_success (with_reducible (first | refine tW ?_ | refine tI ?_ | refine tF ?_ | refine tC ?_ | refine tX ?_ | show wpAny _ _ (eval (PySem.Expr.ListComp _ _ _ _) _) _ _ _ | refine tR 208 ?_ | refine tR 154 ?_ | refine tR 426 ?_ | refine tR 433 ?_ | refine tR 314 ?_ | refine tR 321 ?_ | refine tR 377 ?_ | refine tR 370 ?_ | refine tR 286 ?_ | refine tR 384 ?_ | refine tR 391 ?_ | refine tR 45 ?_ | refine tR 475 ?_ | refine tR 482 ?_ | refine tR 489 ?_ | refine tR 496 ?_ | refine tR 503 ?_ | refine tR 510 ?_))); first | ((with_reducible show WhileStep2 _ _ _ _ _ _ (Flow.ret _) _); dsimp only [WhileStep2]) | ((with_reducible show TurnP _ _ _ _ _ _ _ _ _ (Flow.ret _) _); dsimp only [TurnP]) | (k_unfold; (try dsimp only)) | (k_end; first | refine' next_q (by with_reducible assumption) ?_ | refine' ret_q (by with_reducible assumption) ?_ | refine' brk_q (by with_reducible assumption) ?_ | refine' cont_q (by with_reducible assumption) ?_) | (k_end; wrow_close) | walk1 | (dsimp only; walk1) | (leave1; walk_say "STEP leave1"; try dsimp only)) | fail "no step"))
    (rename Fr _ _ _ _ => F2)
    k_dflt (refine LCg.ListComp_U (F₀ := F2) (by rfl) (by decide) (by rfl) (by decide) (by rfl) ?_)
    (repeat' (first | ((fail_if_success (with_reducible (first | refine tW ?_ | refine tI ?_ | refine tF ?_ | refine tC ?_ | refine tX ?_ | show wpAny _ _ (eval (PySem.Expr.ListComp _ _ _ _) _) _ _ _ | refine tR 208 ?_ | refine tR 154 ?_ | refine tR 426 ?_ | refine tR 433 ?_ | refine tR 314 ?_ | refine tR 321 ?_ | refine tR 377 ?_ | refine tR 370 ?_ | refine tR 286 ?_ | refine tR 384 ?_ | refine tR 391 ?_ | refine tR 45 ?_ | refine tR 475 ?_ | refine tR 482 ?_ | refine tR 489 ?_ | refine tR 496 ?_ | refine tR 503 ?_ | refine tR 510 ?_))); first | ((with_reducible show WhileStep2 _ _ _ _ _ _ (Flow.ret _) _); dsimp only [WhileStep2]) | ((with_reducible show TurnP _ _ _ _ _ _ _ _ _ (Flow.ret _) _); dsimp only [TurnP]) | (k_unfold; (try dsimp only)) | (k_end; first | refine' next_q (by with_reducible assumption) ?_ | refine' ret_q (by with_reducible assumption) ?_ | refine' brk_q (by with_reducible assumption) ?_ | refine' cont_q (by with_reducible assumption) ?_) | (k_end; wrow_close) | walk1 | (dsimp only; walk1) | (leave1; walk_say "STEP leave1"; try dsimp only)) | fail "no step"))
    (rename Fr _ _ _ _ => F2)
    (rename News _ _ _ _ => N2)
    refine LCg.CompSrc.ledger rfl F2 N2 (List.mem_append_right _ hra) (by rw [List.size_toArray, hws.length, sizeLine_eq]; omega) fun g => ?_
    rw [List.size_toArray]
    refine comp_rest (fun i ys Pi => Gr (M ++ P) P Pi ∧ ItmsAre Pi ys (row.take i)) ?_ ⟨.refl, by simp; exact .nil⟩ ?_
    · rintro i ys Pi v I oI C oC D m₂ h tk E' hi ⟨hg, hys⟩ hv hC hx F3 N3 off
      obtain ⟨it, hit⟩ : ∃ it, row[i]? = some it := ⟨_, List.getElem?_eq_getElem (by rw [← hws.length]; exact hi)⟩
      obtain ⟨v', hv', hiv⟩ := hws.at hit
      obtain rfl : v = v' := by simpa [hv'] using hv.symm
      have hra3 := hg.sub _ hra

      cases hiv with
      | num i0 t0 =>
        (repeat' (first | ((fail_if_success (with_reducible (first | refine tW ?_ | refine tI ?_ | refine tF ?_ | refine tC ?_ | refine tX ?_ | show wpAny _ _ (eval (PySem.Expr.ListComp _ _ _ _) _) _ _ _ | refine tR 208 ?_ | refine tR 154 ?_ | refine tR 426 ?_ | refine tR 433 ?_ | refine tR 314 ?_ | refine tR 321 ?_ | refine tR 377 ?_ | refine tR 370 ?_ | refine tR 286 ?_ | refine tR 384 ?_ | refine tR 391 ?_ | refine tR 45 ?_ | refine tR 475 ?_ | refine tR 482 ?_ | refine tR 489 ?_ | refine tR 496 ?_ | refine tR 503 ?_ | refine tR 510 ?_))); first | ((with_reducible show WhileStep2 _ _ _ _ _ _ (Flow.ret _) _); dsimp only [WhileStep2]) | ((with_reducible show TurnP _ _ _ _ _ _ _ _ _ (Flow.ret _) _); dsimp only [TurnP]) | (k_unfold; (try dsimp only)) | (k_end; first | refine' next_q (by with_reducible assumption) ?_ | refine' ret_q (by with_reducible assumption) ?_ | refine' brk_q (by with_reducible assumption) ?_ | refine' cont_q (by with_reducible assumption) ?_) | (k_end; wrow_close) | walk1 | (dsimp only; walk1) | (leave1; walk_say "STEP leave1"; try dsimp only)) | fail "no step"))
        refine' hLi.use ((I, oI) :: (C, oC) :: (D, LCg.lst ys) :: M) Pi i0 (by k_asm) F3 (by k_asm) N3 (fun p hp => hp) (by k_asm) rfl ⟨_, _, rfl⟩ (by ktr_room) (by ktr_units) ?_
        rintro r P' h' tk' F5 N5 hs hf hr
        exact ⟨h', tk', M ++ P', rfl, F5, N5, off3_fresh off hf, .inr ⟨_, List.mem_append_right _ (hs _ hra3), rfl, _, rfl⟩, P', rfl, ⟨(hg.call hs (fr_drop3 hf)), itms_step (hys.mono hs) hit hr⟩⟩
      | sym x t0 =>
        (repeat' (first | ((fail_if_success (with_reducible (first | refine tW ?_ | refine tI ?_ | refine tF ?_ | refine tC ?_ | refine tX ?_ | show wpAny _ _ (eval (PySem.Expr.ListComp _ _ _ _) _) _ _ _ | refine tR 208 ?_ | refine tR 154 ?_ | refine tR 426 ?_ | refine tR 433 ?_ | refine tR 314 ?_ | refine tR 321 ?_ | refine tR 377 ?_ | refine tR 370 ?_ | refine tR 286 ?_ | refine tR 384 ?_ | refine tR 391 ?_ | refine tR 45 ?_ | refine tR 475 ?_ | refine tR 482 ?_ | refine tR 489 ?_ | refine tR 496 ?_ | refine tR 503 ?_ | refine tR 510 ?_))); first | ((with_reducible show WhileStep2 _ _ _ _ _ _ (Flow.ret _) _); dsimp only [WhileStep2]) | ((with_reducible show TurnP _ _ _ _ _ _ _ _ _ (Flow.ret _) _); dsimp only [TurnP]) | (k_unfold; (try dsimp only)) | (k_end; first | refine' next_q (by with_reducible assumption) ?_ | refine' ret_q (by with_reducible assumption) ?_ | refine' brk_q (by with_reducible assumption) ?_ | refine' cont_q (by with_reducible assumption) ?_) | (k_end; wrow_close) | walk1 | (dsimp only; walk1) | (leave1; walk_say "STEP leave1"; try dsimp only)) | fail "no step"))
        refine' hOp.use ((I, oI) :: (C, oC) :: (D, LCg.lst ys) :: M) Pi x (by k_asm) F3 (by k_asm) N3 (fun p hp => hp) (by k_asm) rfl ⟨_, rfl⟩ (by ktr_room) (by ktr_units) ?_
        rintro r P' h' tk' F5 N5 hs hf hr
        exact ⟨h', tk', M ++ P', rfl, F5, N5, off3_fresh off hf, .inr ⟨_, List.mem_append_right _ (hs _ hra3), rfl, _, rfl⟩, P', rfl, ⟨(hg.call hs (fr_drop3 hf)), itms_step (hys.mono hs) hit hr⟩⟩
    · rintro ys Pi ⟨hg, hys⟩
      rintro D h tk F3 N3 off
      (repeat' (first | ((fail_if_success (with_reducible (first | refine tW ?_ | refine tI ?_ | refine tF ?_ | refine tC ?_ | refine tX ?_ | show wpAny _ _ (eval (PySem.Expr.ListComp _ _ _ _) _) _ _ _ | refine tR 208 ?_ | refine tR 154 ?_ | refine tR 426 ?_ | refine tR 433 ?_ | refine tR 314 ?_ | refine tR 321 ?_ | refine tR 377 ?_ | refine tR 370 ?_ | refine tR 286 ?_ | refine tR 384 ?_ | refine tR 391 ?_ | refine tR 45 ?_ | refine tR 475 ?_ | refine tR 482 ?_ | refine tR 489 ?_ | refine tR 496 ?_ | refine tR 503 ?_ | refine tR 510 ?_))); first | ((with_reducible show WhileStep2 _ _ _ _ _ _ (Flow.ret _) _); dsimp only [WhileStep2]) | ((with_reducible show TurnP _ _ _ _ _ _ _ _ _ (Flow.ret _) _); dsimp only [TurnP]) | (k_unfold; (try dsimp only)) | (k_end; first | refine' next_q (by with_reducible assumption) ?_ | refine' ret_q (by with_reducible assumption) ?_ | refine' brk_q (by with_reducible assumption) ?_ | refine' cont_q (by with_reducible assumption) ?_) | (k_end; wrow_close) | walk1 | (dsimp only; walk1) | (leave1; walk_say "STEP leave1"; try dsimp only)) | fail "no step"))
      refine hret _ ((D, LCg.lst ys) :: Pi) _ _ (by assumption) (nsub (by assumption) mv1) (fun p hp => .tail _ (hg.sub p hp)) (fr_one hg off) ?_
      exact ⟨D, ys, _, rfl, .head _, by
        rw [hws.length, List.take_length] at hys
        exact hys.mono fun p hp => .tail _ hp⟩)

end
section
noncomputable def TakeDS (w : World) : Prop :=
  ∀ (mean : ExcName → Option Value) (mg mb : Str → Option Value) (dp un : Nat) (gd : Option (List Code)) (cn : Str) (cs : Scope) (a : Addr) (ccd : Value) (cl : List (Str × Addr)) (outer : List Env) (A₀ : Around) (base h₀ : Heap) (L : Addr) (m : Str → Option Value) (nw : Led) (s : Shared) (S : Addr) (x y : Int) (tx ty : Tok) (n : Nat) (top : Int) (tt : Tok)
    (Q E : Value → Shared → Prop),
    Below A₀ base outer h₀ → Fr h₀ L s.heap m → (Mine.hd.heap_1 w.params).In h₀ → News h₀ L s.heap ((S, listOf #[.int x tx, .int y ty] n) :: nw) → (∀ p ∈ nw, p.1 ≠ S) → Top topProg LO2 mean mg mb h₀ → cs.kind = .function → 0 < top → top ≤ 4 → dp + 4 < recursionLimit → un + 8 * 4 < cLine → (PySem.Challenge.rw_np0230_01.row.prog = PySem.Challenge.rw_np0230_01.row.prog →
    ∀ d x' y' td tx' ty' n' h' tk', Fr h₀ L h' m → News h₀ L h' ((S, listOf #[.int x' tx', .int y' ty'] n') :: nw) → 0 ≤ d → d < top → Q (.int d td) { s with heap := h', toks := tk' }) →
    wpAny (model PySem.Challenge.rw_np0230_01.row.prog w) (ktrTop dp un gd cn cs L a ccd cl outer) (call (.ref 454) [.ref S, .int top tt]) Q E s
local macro_rules | `(tactic| walk_at "binaryOp FloorDiv int int") => `(tactic| (k_here; k_dflt (refine floordiv_int (by omega) ?_ (Or.inl (PyProof.noPylong_small (by omega))))))
theorem take_d_spec (w : World) : TakeDS w := by
  unfold TakeDS
  k_fill
  rintro mean mg mb dp un gd cn cs a ccd cl outer A₀ base h₀ L m nw s S x y tx ty n top tt Q E B F X N off TT hk hpos h4 hd hu hret
  refine wpAny_call ?_
  k_dflt ktr_enter
  w_strict (
    walk_at "norm"
    rename_i g1 L1 h1 FG1 F1 N1 B1 X1 T1
    (replace F1 := fr_lk [(Str.ofString "top", .int top tt), (Str.ofString "source", .ref S)] F1)
    (dsimp only [lkm] at F1)
    (repeat' (first | ((fail_if_success (with_reducible (first | refine tW ?_ | refine tI ?_ | refine tF ?_ | refine tC ?_ | refine tX ?_ | show wpAny _ _ (setItem _ _ _) _ _ _ | refine tR 426 ?_ | refine tR 433 ?_ | refine tR 314 ?_ | refine tR 321 ?_ | refine tR 377 ?_ | refine tR 370 ?_ | refine tR 286 ?_ | refine tR 384 ?_ | refine tR 391 ?_ | refine tR 45 ?_ | refine tR 475 ?_ | refine tR 482 ?_ | refine tR 489 ?_ | refine tR 496 ?_ | refine tR 503 ?_ | refine tR 510 ?_))); first | ((with_reducible show WhileStep2 _ _ _ _ _ _ (Flow.ret _) _); dsimp only [WhileStep2]) | ((with_reducible show TurnP _ _ _ _ _ _ _ _ _ (Flow.ret _) _); dsimp only [TurnP]) | (k_unfold; (try dsimp only)) | (k_end; first | refine' next_q (by with_reducible assumption) ?_ | refine' ret_q (by with_reducible assumption) ?_ | refine' brk_q (by with_reducible assumption) ?_ | refine' cont_q (by with_reducible assumption) ?_) | (k_end; wrow_close) | walk1 | (dsimp only; walk1) | (leave1; walk_say "STEP leave1"; try dsimp only)) | fail "no step"))
    · refine ki_set (by assumption) (by assumption) (by decide) (by decide) rfl (.head off) fun h' F' N' => ?_
      (try clear F1)
      (try clear N1)
      (repeat' (first | ((fail_if_success (with_reducible (first | refine tW ?_ | refine tI ?_ | refine tF ?_ | refine tC ?_ | refine tX ?_ | show wpAny _ _ (setItem _ _ _) _ _ _ | refine tR 426 ?_ | refine tR 433 ?_ | refine tR 314 ?_ | refine tR 321 ?_ | refine tR 377 ?_ | refine tR 370 ?_ | refine tR 286 ?_ | refine tR 384 ?_ | refine tR 391 ?_ | refine tR 45 ?_ | refine tR 475 ?_ | refine tR 482 ?_ | refine tR 489 ?_ | refine tR 496 ?_ | refine tR 503 ?_ | refine tR 510 ?_))); first | ((with_reducible show WhileStep2 _ _ _ _ _ _ (Flow.ret _) _); dsimp only [WhileStep2]) | ((with_reducible show TurnP _ _ _ _ _ _ _ _ _ (Flow.ret _) _); dsimp only [TurnP]) | (k_unfold; (try dsimp only)) | (k_end; first | refine' next_q (by with_reducible assumption) ?_ | refine' ret_q (by with_reducible assumption) ?_ | refine' brk_q (by with_reducible assumption) ?_ | refine' cont_q (by with_reducible assumption) ?_) | (k_end; wrow_close) | walk1 | (dsimp only; walk1) | (leave1; walk_say "STEP leave1"; try dsimp only)) | fail "no step"))
      exact hret rfl _ _ _ _ _ _ _ _ _ (by assumption) (by assumption) (Int.fmod_nonneg_of_pos _ hpos) (Int.fmod_lt_of_pos _ hpos)
    · refine ki_set (by assumption) (by assumption) (by decide) (by decide) rfl (.head off) fun h' F' N' => ?_
      (try clear F1)
      (try clear N1)
      (repeat' (first | ((fail_if_success (with_reducible (first | refine tW ?_ | refine tI ?_ | refine tF ?_ | refine tC ?_ | refine tX ?_ | show wpAny _ _ (setItem _ _ _) _ _ _ | refine tR 426 ?_ | refine tR 433 ?_ | refine tR 314 ?_ | refine tR 321 ?_ | refine tR 377 ?_ | refine tR 370 ?_ | refine tR 286 ?_ | refine tR 384 ?_ | refine tR 391 ?_ | refine tR 45 ?_ | refine tR 475 ?_ | refine tR 482 ?_ | refine tR 489 ?_ | refine tR 496 ?_ | refine tR 503 ?_ | refine tR 510 ?_))); first | ((with_reducible show WhileStep2 _ _ _ _ _ _ (Flow.ret _) _); dsimp only [WhileStep2]) | ((with_reducible show TurnP _ _ _ _ _ _ _ _ _ (Flow.ret _) _); dsimp only [TurnP]) | (k_unfold; (try dsimp only)) | (k_end; first | refine' next_q (by with_reducible assumption) ?_ | refine' ret_q (by with_reducible assumption) ?_ | refine' brk_q (by with_reducible assumption) ?_ | refine' cont_q (by with_reducible assumption) ?_) | (k_end; wrow_close) | walk1 | (dsimp only; walk1) | (leave1; walk_say "STEP leave1"; try dsimp only)) | fail "no step"))
      exact hret rfl _ _ _ _ _ _ _ _ _ (by assumption) (by assumption) (Int.fmod_nonneg_of_pos _ hpos) (Int.fmod_lt_of_pos _ hpos))

end
section
noncomputable def DrawnS (w : World) : Prop :=
  ∀ (mean : ExcName → Option Value) (mg mb : Str → Option Value) (dp un : Nat) (gd : Option (List Code)) (cn : Str) (cs : Scope) (a : Addr) (ccd : Value) (cl : List (Str × Addr)) (outer : List Env) (A₀ : Around) (base h₀ : Heap) (L : Addr) (m : Str → Option Value) (nw : Led) (s : Shared) (S : Addr) (x y : Int) (tx ty : Tok) (n : Nat)
    (Q E : Value → Shared → Prop),
    Below A₀ base outer h₀ → Fr h₀ L s.heap m → (Mine.hd.heap_1 w.params).In h₀ → News h₀ L s.heap ((S, listOf #[.int x tx, .int y ty] n) :: nw) → (∀ p ∈ nw, p.1 ≠ S) → Top topProg LO2 mean mg mb h₀ → cs.kind = .function → dp + 8 < recursionLimit → un + 8 * 8 < cLine → (PySem.Challenge.rw_np0230_01.row.prog = PySem.Challenge.rw_np0230_01.row.prog →
    ∀ R x' y' vs row k tx' ty' n' h' tk', Fr h₀ L h' m → News h₀ L h' ((S, listOf #[.int x' tx', .int y' ty'] n') :: (R, listOf vs.toArray k) :: nw) → R ≠ S → (∀ p ∈ nw, p.1 ≠ R) → ItsAre vs row → vld row = true → row.length ≤ 11 → Q (.ref R) { s with heap := h', toks := tk' }) →
    wpAny (model PySem.Challenge.rw_np0230_01.row.prog w) (ktrTop dp un gd cn cs L a ccd cl outer) (call (.ref 461) [.ref S]) Q E s
theorem swp {p q : Addr × Obj} {X : Led} : ∀ r ∈ q :: p :: X, r ∈ p :: q :: X := by
  intro r hr
  simp only [List.mem_cons] at hr ⊢
  rcases hr with h | h | h <;> simp [h]
noncomputable def DrIs (i : Nat) (vs : List Value) (row : List It) : Prop := ItsAre vs row ∧ (i = 0 → row = []) ∧ (i ≠ 0 → vld row = true ∧ row.length + 1 ≤ 3 * i)
theorem dr_sub {own nw : Led} {p q : Addr × Obj} : ∀ r ∈ p :: q :: (own ++ nw), r ∈ (own ++ (p :: q :: nw)) ++ [] := by
  intro r hr
  simp only [List.mem_cons, List.mem_append] at hr ⊢
  rcases hr with h | h | h | h <;> simp [h]
theorem dr_two {S R : Addr} {nw : Led} (h : S < R ∧ AllLt R nw) : S ≠ R ∧ ∀ p ∈ nw, p.1 ≠ R := ⟨Nat.ne_of_lt h.1, fun p hp => Nat.ne_of_lt (of_allLt h.2 p hp)⟩
theorem dr_off {own nw A : Led} {S : Addr} {o : Obj} (ho : OwnOff own ((A ++ []).map fun q : Addr × Obj => q.1)) (hm : (S, o) ∈ A) (h : ∀ p ∈ nw, (p : Addr × Obj).1 ≠ S) : ∀ p ∈ own ++ nw, p.1 ≠ S := by
  intro p hp
  rcases List.mem_append.mp hp with q | q
  · exact ho p q S (List.mem_map.mpr ⟨_, List.mem_append_left _ hm, rfl⟩)
  · exact h p q
theorem dr_item {d : Int} (h0 : 0 ≤ d) (h4 : d < 4) : ∃ x : Nm, Txt.item (Str.ofString "abc:") d = x.str ∧ x ≠ .mi := by
  obtain rfl | rfl | rfl | rfl : d = 0 ∨ d = 1 ∨ d = 2 ∨ d = 3 := by omega
  · exact ⟨.a, by decide +kernel, by decide⟩
  · exact ⟨.b, by decide +kernel, by decide⟩
  · exact ⟨.c, by decide +kernel, by decide⟩
  · exact ⟨.col, by decide +kernel, by decide⟩
theorem dr_len {i : Nat} {vs : List Value} {row : List It} (h : DrIs i vs row) (hi : i ≤ 4) : vs.length ≤ 100 := by
  rw [h.1.length]
  by_cases e : i = 0
  · rw [h.2.1 e]; decide
  · have := (h.2.2 e).2; omega
theorem vldA_app {x : Nm} {b : List It} (hx : x ≠ .mi) (hb : vld b = true) : ∀ {a : List It} {d m : Bool}, vldA a d m = true → vldA (a ++ .sym x :: b) d m = true := by
  intro a
  induction a with
  | nil =>
    intro d m h
    cases d with
    | true => cases h
    | false => exact Bool.and_eq_true_iff.mpr ⟨decide_eq_true hx, hb⟩
  | cons i r ih =>
    intro d m h
    cases i with
    | num j =>
      obtain ⟨h1, h2⟩ := Bool.and_eq_true_iff.mp h
      exact Bool.and_eq_true_iff.mpr ⟨h1, ih h2⟩
    | sym y =>
      cases d with
      | true =>
        obtain ⟨h1, h2⟩ := Bool.and_eq_true_iff.mp h
        obtain ⟨h2, h3⟩ := Bool.and_eq_true_iff.mp h2
        exact Bool.and_eq_true_iff.mpr ⟨h1, Bool.and_eq_true_iff.mpr ⟨h2, ih h3⟩⟩
      | false =>
        obtain ⟨h1, h2⟩ := Bool.and_eq_true_iff.mp h
        exact Bool.and_eq_true_iff.mpr ⟨h1, ih h2⟩
theorem vld_app {x : Nm} {b : List It} (hx : x ≠ .mi) (hb : vld b = true) {a : List It} (h : vld a = true) : vld (a ++ .sym x :: b) = true := vldA_app hx hb h
theorem ItsAre.app {vs ws : List Value} {a b : List It} (h : ItsAre vs a) (k : ItsAre ws b) : ItsAre (vs ++ ws) (a ++ b) := by
  induction h with
  | nil => exact k
  | cons e _ ih => exact .cons e ih
theorem dr_next {i : Nat} {vs ws : List Value} {row tl : List It} {x : Nm} {t : Tok} (h : DrIs i vs row) (hi : 0 < 0 + (i : Int)) (hx : x ≠ .mi) (hw : ItsAre ws tl) (hv : vld tl = true) (hl : tl.length ≤ 2) : DrIs (i + 1) (vs ++ .str x.str t :: ws) (row ++ .sym x :: tl) := by
  have hi0 : i ≠ 0 := by omega
  refine ⟨h.1.app (.cons (.sym x t) hw), fun e => by omega, fun _ => ⟨vld_app hx hv (h.2.2 hi0).1, ?_⟩⟩
  have := (h.2.2 hi0).2
  simp only [List.length_append, List.length_cons]
  omega
theorem dr_first {i : Nat} {vs ws : List Value} {row tl : List It} (h : DrIs i vs row) (hi : ¬ 0 < 0 + (i : Int)) (hw : ItsAre ws tl) (hv : vld tl = true) (hl : tl.length ≤ 2) : DrIs (i + 1) (vs ++ ws) tl := by
  have hi0 : i = 0 := by omega
  have e := h.2.1 hi0
  subst e
  have e : vs = [] := by
    have := h.1.length
    exact List.eq_nil_of_length_eq_zero this
  subst e
  exact ⟨hw, fun e => by omega, fun _ => ⟨hv, by omega⟩⟩
theorem dr_tail2 {i : Nat} {t u : Tok} : ItsAre [.str (Str.ofString "-") t, .int (0 + (i : Int)) u] [.sym .mi, .num i] := by
  rw [Int.zero_add]; exact .cons (.sym .mi t) (.cons (.num i u) .nil)
theorem dr_tail1 {i : Nat} {u : Tok} : ItsAre [.int (0 + (i : Int)) u] [.num i] := by
  rw [Int.zero_add]; exact .cons (.num i u) .nil
theorem dr_sub2 {own nw : Led} {p q : Addr × Obj} : ∀ r ∈ (own ++ (p :: q :: nw)) ++ [], r ∈ p :: q :: (own ++ nw) := by
  intro r hr
  simp only [List.mem_cons, List.mem_append, List.not_mem_nil, or_false] at hr ⊢
  rcases hr with h | h | h | h <;> simp [h]
theorem dr_n2 {i : Nat} {vs : List Value} {row : List It} {x : Nm} {t u v : Tok} (h : DrIs i vs row) (hi : 0 < 0 + (i : Int)) (hx : x ≠ .mi) : DrIs (i + 1) (vs ++ [.str x.str t] ++ [.str (Str.ofString "-") u] ++ [.int (0 + (i : Int)) v]) (row ++ .sym x :: [.sym .mi, .num i]) := by
  have := dr_next (t := t) h hi hx (dr_tail2 (i := i) (t := u) (u := v)) (by rfl) (by simp)
  simpa only [List.append_assoc, List.cons_append, List.nil_append] using this
theorem dr_n1 {i : Nat} {vs : List Value} {row : List It} {x : Nm} {t v : Tok} (h : DrIs i vs row) (hi : 0 < 0 + (i : Int)) (hx : x ≠ .mi) : DrIs (i + 1) (vs ++ [.str x.str t] ++ [.int (0 + (i : Int)) v]) (row ++ .sym x :: [.num i]) := by
  have := dr_next (t := t) h hi hx (dr_tail1 (i := i) (u := v)) (by rfl) (by simp)
  simpa only [List.append_assoc, List.cons_append, List.nil_append] using this
theorem dr_f2 {i : Nat} {vs : List Value} {row : List It} {u v : Tok} (h : DrIs i vs row) (hi : ¬ 0 < 0 + (i : Int)) : DrIs (i + 1) (vs ++ [.str (Str.ofString "-") u] ++ [.int (0 + (i : Int)) v]) [.sym .mi, .num i] := by
  have := dr_first h hi (dr_tail2 (i := i) (t := u) (u := v)) (by rfl) (by simp)
  simpa only [List.append_assoc, List.cons_append, List.nil_append] using this
theorem dr_f1 {i : Nat} {vs : List Value} {row : List It} {v : Tok} (h : DrIs i vs row) (hi : ¬ 0 < 0 + (i : Int)) : DrIs (i + 1) (vs ++ [.int (0 + (i : Int)) v]) [.num i] :=
  dr_first h hi (dr_tail1 (i := i) (u := v)) (by rfl) (by simp)
local macro_rules | `(tactic| size_fits) => `(tactic| (rw [sizeLine_eq]; simp only [Array.size_push, List.size_toArray]; omega))
theorem drawn_spec (w : World) (hTk : TakeDS w) : DrawnS w := by
  unfold DrawnS
  k_fill
  rintro mean mg mb dp un gd cn cs a ccd cl outer A₀ base h₀ L m nw s S x y tx ty n Q E B F X N off TT hk hd hu hret
  refine wpAny_call ?_
  k_dflt ktr_enter
  w_strict (
    walk_at "norm"
    rename_i g1 L1 h1 FG1 F1 N1 B1 X1 T1
    (replace F1 := fr_lk [(Str.ofString "source", .ref S)] F1)
    (dsimp only [lkm] at F1)
    (repeat' (first | ((fail_if_success (with_reducible (first | refine tW ?_ | refine tI ?_ | refine tF ?_ | refine tC ?_ | refine tX ?_ | refine tR 454 ?_ | refine tR 426 ?_ | refine tR 433 ?_ | refine tR 314 ?_ | refine tR 321 ?_ | refine tR 377 ?_ | refine tR 370 ?_ | refine tR 286 ?_ | refine tR 384 ?_ | refine tR 391 ?_ | refine tR 45 ?_ | refine tR 475 ?_ | refine tR 482 ?_ | refine tR 489 ?_ | refine tR 496 ?_ | refine tR 503 ?_ | refine tR 510 ?_))); first | ((with_reducible show WhileStep2 _ _ _ _ _ _ (Flow.ret _) _); dsimp only [WhileStep2]) | ((with_reducible show TurnP _ _ _ _ _ _ _ _ _ (Flow.ret _) _); dsimp only [TurnP]) | (k_unfold; (try dsimp only)) | (k_end; first | refine' next_q (by with_reducible assumption) ?_ | refine' ret_q (by with_reducible assumption) ?_ | refine' brk_q (by with_reducible assumption) ?_ | refine' cont_q (by with_reducible assumption) ?_) | (k_end; wrow_close) | walk1 | (dsimp only; walk1) | (leave1; walk_say "STEP leave1"; try dsimp only)) | fail "no step"))
    (rename Fr _ _ _ _ => F2)
    (rename News _ _ _ _ => N2)
    (rename (_ < _ ∧ AllLt _ _) => l1)
    obtain ⟨hSR, offR0⟩ := dr_two l1
    refine For_invVF F2 rfl rfl ?_
    (repeat' (first | ((fail_if_success (with_reducible (first | refine tW ?_ | refine tI ?_ | refine tF ?_ | refine tC ?_ | refine tX ?_ | refine tR 454 ?_ | refine tR 426 ?_ | refine tR 433 ?_ | refine tR 314 ?_ | refine tR 321 ?_ | refine tR 377 ?_ | refine tR 370 ?_ | refine tR 286 ?_ | refine tR 384 ?_ | refine tR 391 ?_ | refine tR 45 ?_ | refine tR 475 ?_ | refine tR 482 ?_ | refine tR 489 ?_ | refine tR 496 ?_ | refine tR 503 ?_ | refine tR 510 ?_))); first | ((with_reducible show WhileStep2 _ _ _ _ _ _ (Flow.ret _) _); dsimp only [WhileStep2]) | ((with_reducible show TurnP _ _ _ _ _ _ _ _ _ (Flow.ret _) _); dsimp only [TurnP]) | (k_unfold; (try dsimp only)) | (k_end; first | refine' next_q (by with_reducible assumption) ?_ | refine' ret_q (by with_reducible assumption) ?_ | refine' brk_q (by with_reducible assumption) ?_ | refine' cont_q (by with_reducible assumption) ?_) | (k_end; wrow_close) | walk1 | (dsimp only; walk1) | (leave1; walk_say "STEP leave1"; try dsimp only)) | fail "no step"))
    refine' hTk _ _ _ _ _ _ _ _ _ _ _ _ _ _ _ _ _ ((_, _) :: nw) _ S x y tx ty n 4 _ _ _ (by k_asm) F2 (by k_asm) (nsub N2 swp) (off_cons (Nat.ne_of_gt l1.1) off) (by k_asm) rfl (by decide) (by decide) (by ktr_room) (by ktr_units) ?_
    intro _ d x' y' td tx' ty' n' h' tk' F3 N3 hd0 hd4
    clear F2 N2
    obtain ⟨c, rfl⟩ : ∃ c : Nat, d = c := ⟨d.toNat, by omega⟩
    have hc : Nat.ble c 3 = true := Nat.ble_eq_true_of_le (by omega)
    clear hd0 hd4
    (repeat' (first | ((fail_if_success (with_reducible (first | refine tW ?_ | refine tI ?_ | refine tF ?_ | refine tC ?_ | refine tX ?_ | refine tR 454 ?_ | refine tR 426 ?_ | refine tR 433 ?_ | refine tR 314 ?_ | refine tR 321 ?_ | refine tR 377 ?_ | refine tR 370 ?_ | refine tR 286 ?_ | refine tR 384 ?_ | refine tR 391 ?_ | refine tR 45 ?_ | refine tR 475 ?_ | refine tR 482 ?_ | refine tR 489 ?_ | refine tR 496 ?_ | refine tR 503 ?_ | refine tR 510 ?_))); first | ((with_reducible show WhileStep2 _ _ _ _ _ _ (Flow.ret _) _); dsimp only [WhileStep2]) | ((with_reducible show TurnP _ _ _ _ _ _ _ _ _ (Flow.ret _) _); dsimp only [TurnP]) | (k_unfold; (try dsimp only)) | (k_end; first | refine' next_q (by with_reducible assumption) ?_ | refine' ret_q (by with_reducible assumption) ?_ | refine' brk_q (by with_reducible assumption) ?_ | refine' cont_q (by with_reducible assumption) ?_) | (k_end; wrow_close) | walk1 | (dsimp only; walk1) | (leave1; walk_say "STEP leave1"; try dsimp only)) | fail "no step"))
    (rename Fr _ _ _ _ => F4)
    (rename News _ _ _ _ => N4)
    (rename IsRange _ _ _ _ _ _ _ _ => rg)
    refine forR (M := (S, listOf #[.int x' tx', .int y' ty'] n') :: (_, listOf #[] 0) :: nw) (P := []) (n := c + 1) [] (fun i u Mx Px => ∃ x y tx ty n vs row k, Mx = (S, listOf #[.int x tx, .int y ty] n) :: (_, listOf (List.toArray vs) k) :: nw ∧ Px = [] ∧ DrIs i vs row) rfl rg (small_one (by omega) (by have := Nat.le_of_ble_eq_true hc; omega) (by omega) (by have := Nat.le_of_ble_eq_true hc; omega)) (by rw [rangeSize_nat]; omega) F4 (by rw [List.append_nil]; exact N4) ⟨_, _, _, _, _, [], [], _, rfl, rfl, .nil, fun _ => rfl, fun h => absurd rfl h⟩ ?_ ?_
    · rintro i t u _ _ h6 tk6 own hi ho hDD1 F5 N5
      walk_at "norm"
      refine el8 hDD1 ?_
      clear hDD1
      rintro x3 y3 tx3 ty3 n3 vs row k3 ⟨rfl, rfl, hJ⟩
      clear F4 N4
      dsimp only [List.contains_nil] at F5
      simp only [Bool.false_eq_true, if_false] at F5
      have N6 := nsub N5 (dr_sub (own := own))
      clear N5
      have hvl : vs.length ≤ 100 := dr_len hJ (by have := Nat.le_of_ble_eq_true hc; omega)
      have offS := dr_off ho (.head _) off
      have offR := dr_off ho (.tail _ (.head _)) offR0
      (repeat' (first | ((fail_if_success (with_reducible (first | refine tW ?_ | refine tI ?_ | refine tF ?_ | refine tC ?_ | refine tX ?_ | refine tR 454 ?_ | refine tR 426 ?_ | refine tR 433 ?_ | refine tR 314 ?_ | refine tR 321 ?_ | refine tR 377 ?_ | refine tR 370 ?_ | refine tR 286 ?_ | refine tR 384 ?_ | refine tR 391 ?_ | refine tR 45 ?_ | refine tR 475 ?_ | refine tR 482 ?_ | refine tR 489 ?_ | refine tR 496 ?_ | refine tR 503 ?_ | refine tR 510 ?_))); first | ((with_reducible show WhileStep2 _ _ _ _ _ _ (Flow.ret _) _); dsimp only [WhileStep2]) | ((with_reducible show TurnP _ _ _ _ _ _ _ _ _ (Flow.ret _) _); dsimp only [TurnP]) | (k_unfold; (try dsimp only)) | (k_end; first | refine' next_q (by with_reducible assumption) ?_ | refine' ret_q (by with_reducible assumption) ?_ | refine' brk_q (by with_reducible assumption) ?_ | refine' cont_q (by with_reducible assumption) ?_) | (k_end; wrow_close) | walk1 | (dsimp only; walk1) | (leave1; walk_say "STEP leave1"; try dsimp only)) | fail "no step"))
      · (rename Fr _ _ _ _ => F7)
        (rename News _ _ _ _ => N7)
        refine' hTk _ _ _ _ _ _ _ _ _ _ _ _ _ _ _ _ _ ((_, _) :: (own ++ nw)) _ S x3 y3 tx3 ty3 n3 4 _ _ _ (by k_asm) F7 (by k_asm) N7 (off_cons (Ne.symm hSR) offS) (by k_asm) rfl (by decide) (by decide) (by ktr_room) (by ktr_units) ?_
        intro _ d4 x4 y4 td4 tx4 ty4 n4 h4 tk4 F8 N8 hd0 hd4
        clear F7 N7
        (repeat' (first | ((fail_if_success (with_reducible (first | refine tW ?_ | refine tI ?_ | refine tF ?_ | refine tC ?_ | refine tX ?_ | refine tR 454 ?_ | refine tR 426 ?_ | refine tR 433 ?_ | refine tR 314 ?_ | refine tR 321 ?_ | refine tR 377 ?_ | refine tR 370 ?_ | refine tR 286 ?_ | refine tR 384 ?_ | refine tR 391 ?_ | refine tR 45 ?_ | refine tR 475 ?_ | refine tR 482 ?_ | refine tR 489 ?_ | refine tR 496 ?_ | refine tR 503 ?_ | refine tR 510 ?_))); first | ((with_reducible show WhileStep2 _ _ _ _ _ _ (Flow.ret _) _); dsimp only [WhileStep2]) | ((with_reducible show TurnP _ _ _ _ _ _ _ _ _ (Flow.ret _) _); dsimp only [TurnP]) | (k_unfold; (try dsimp only)) | (k_end; first | refine' next_q (by with_reducible assumption) ?_ | refine' ret_q (by with_reducible assumption) ?_ | refine' brk_q (by with_reducible assumption) ?_ | refine' cont_q (by with_reducible assumption) ?_) | (k_end; wrow_close) | walk1 | (dsimp only; walk1) | (leave1; walk_say "STEP leave1"; try dsimp only)) | fail "no step"))
        obtain ⟨x5, hx5, hne5⟩ := dr_item hd0 hd4
        clear hd0 hd4
        (rename News _ _ _ _ => N9)
        (rename Fr _ _ _ _ => F9)
        rw [hx5] at N9
        refine' hTk _ _ _ _ _ _ _ _ _ _ _ _ _ _ _ _ _ ((_, _) :: (own ++ nw)) _ S x4 y4 tx4 ty4 n4 4 _ _ _ (by k_asm) F9 (by k_asm) N9 (off_cons (Ne.symm hSR) offS) (by k_asm) rfl (by decide) (by decide) (by ktr_room) (by ktr_units) ?_
        intro _ d6 x6 y6 td6 tx6 ty6 n6 h6' tk6' F10 N10 hd0 hd4
        clear F9 N9 hd0 hd4
        (repeat' (first | ((fail_if_success (with_reducible (first | refine tW ?_ | refine tI ?_ | refine tF ?_ | refine tC ?_ | refine tX ?_ | refine tR 454 ?_ | refine tR 426 ?_ | refine tR 433 ?_ | refine tR 314 ?_ | refine tR 321 ?_ | refine tR 377 ?_ | refine tR 370 ?_ | refine tR 286 ?_ | refine tR 384 ?_ | refine tR 391 ?_ | refine tR 45 ?_ | refine tR 475 ?_ | refine tR 482 ?_ | refine tR 489 ?_ | refine tR 496 ?_ | refine tR 503 ?_ | refine tR 510 ?_))); first | ((with_reducible show WhileStep2 _ _ _ _ _ _ (Flow.ret _) _); dsimp only [WhileStep2]) | ((with_reducible show TurnP _ _ _ _ _ _ _ _ _ (Flow.ret _) _); dsimp only [TurnP]) | (k_unfold; (try dsimp only)) | (k_end; first | refine' next_q (by with_reducible assumption) ?_ | refine' ret_q (by with_reducible assumption) ?_ | refine' brk_q (by with_reducible assumption) ?_ | refine' cont_q (by with_reducible assumption) ?_) | (k_end; wrow_close) | walk1 | (dsimp only; walk1) | (leave1; walk_say "STEP leave1"; try dsimp only)) | fail "no step"))
        · (rename News _ _ _ _ => N11)
          simp only [List.push_toArray] at N11
          exact ex5 _ _ _ ((S, _) :: (_, listOf (List.toArray _) _) :: nw) [] ⟨rfl, by assumption, nsub N11 dr_sub2, ho, by (first | (intro z h1 h3; (repeat' (first | with_reducible rfl | with_reducible refine sm1 h1 ?_ | with_reducible refine sm2 h3 ?_ | with_reducible refine sm4 ?_ | with_reducible refine sm3 h3 (by kfm_turns) ?_)); done) | (intro z h1 h3; (try simp only [List.contains_cons, List.contains_nil, Bool.or_false, Bool.or_eq_false_iff, beq_eq_false_iff_ne, ne_eq] at h3); first | rfl | (simp [h1, h3]; done) | (simp_all; done))), ex8 _ _ _ _ _ _ _ _ ⟨rfl, rfl, dr_n2 hJ (by assumption) hne5⟩⟩
        · (rename News _ _ _ _ => N11)
          simp only [List.push_toArray] at N11
          exact ex5 _ _ _ ((S, _) :: (_, listOf (List.toArray _) _) :: nw) [] ⟨rfl, by assumption, nsub N11 dr_sub2, ho, by (first | (intro z h1 h3; (repeat' (first | with_reducible rfl | with_reducible refine sm1 h1 ?_ | with_reducible refine sm2 h3 ?_ | with_reducible refine sm4 ?_ | with_reducible refine sm3 h3 (by kfm_turns) ?_)); done) | (intro z h1 h3; (try simp only [List.contains_cons, List.contains_nil, Bool.or_false, Bool.or_eq_false_iff, beq_eq_false_iff_ne, ne_eq] at h3); first | rfl | (simp [h1, h3]; done) | (simp_all; done))), ex8 _ _ _ _ _ _ _ _ ⟨rfl, rfl, dr_n1 hJ (by assumption) hne5⟩⟩
      · (rename Fr _ _ _ _ => F9)
        refine' hTk _ _ _ _ _ _ _ _ _ _ _ _ _ _ _ _ _ ((_, _) :: (own ++ nw)) _ S x3 y3 tx3 ty3 n3 4 _ _ _ (by k_asm) F9 (by k_asm) N6 (off_cons (Ne.symm hSR) offS) (by k_asm) rfl (by decide) (by decide) (by ktr_room) (by ktr_units) ?_
        intro _ d6 x6 y6 td6 tx6 ty6 n6 h6' tk6' F10 N10 hd0 hd4
        clear F9 N6 hd0 hd4
        (repeat' (first | ((fail_if_success (with_reducible (first | refine tW ?_ | refine tI ?_ | refine tF ?_ | refine tC ?_ | refine tX ?_ | refine tR 454 ?_ | refine tR 426 ?_ | refine tR 433 ?_ | refine tR 314 ?_ | refine tR 321 ?_ | refine tR 377 ?_ | refine tR 370 ?_ | refine tR 286 ?_ | refine tR 384 ?_ | refine tR 391 ?_ | refine tR 45 ?_ | refine tR 475 ?_ | refine tR 482 ?_ | refine tR 489 ?_ | refine tR 496 ?_ | refine tR 503 ?_ | refine tR 510 ?_))); first | ((with_reducible show WhileStep2 _ _ _ _ _ _ (Flow.ret _) _); dsimp only [WhileStep2]) | ((with_reducible show TurnP _ _ _ _ _ _ _ _ _ (Flow.ret _) _); dsimp only [TurnP]) | (k_unfold; (try dsimp only)) | (k_end; first | refine' next_q (by with_reducible assumption) ?_ | refine' ret_q (by with_reducible assumption) ?_ | refine' brk_q (by with_reducible assumption) ?_ | refine' cont_q (by with_reducible assumption) ?_) | (k_end; wrow_close) | walk1 | (dsimp only; walk1) | (leave1; walk_say "STEP leave1"; try dsimp only)) | fail "no step"))
        · (rename News _ _ _ _ => N11)
          simp only [List.push_toArray] at N11
          exact ex5 _ _ _ ((S, _) :: (_, listOf (List.toArray _) _) :: nw) [] ⟨rfl, by assumption, nsub N11 dr_sub2, ho, by (first | (intro z h1 h3; (repeat' (first | with_reducible rfl | with_reducible refine sm1 h1 ?_ | with_reducible refine sm2 h3 ?_ | with_reducible refine sm4 ?_ | with_reducible refine sm3 h3 (by kfm_turns) ?_)); done) | (intro z h1 h3; (try simp only [List.contains_cons, List.contains_nil, Bool.or_false, Bool.or_eq_false_iff, beq_eq_false_iff_ne, ne_eq] at h3); first | rfl | (simp [h1, h3]; done) | (simp_all; done))), ex8 _ _ _ _ _ _ _ _ ⟨rfl, rfl, dr_f2 hJ (by assumption)⟩⟩
        · (rename News _ _ _ _ => N11)
          simp only [List.push_toArray] at N11
          exact ex5 _ _ _ ((S, _) :: (_, listOf (List.toArray _) _) :: nw) [] ⟨rfl, by assumption, nsub N11 dr_sub2, ho, by (first | (intro z h1 h3; (repeat' (first | with_reducible rfl | with_reducible refine sm1 h1 ?_ | with_reducible refine sm2 h3 ?_ | with_reducible refine sm4 ?_ | with_reducible refine sm3 h3 (by kfm_turns) ?_)); done) | (intro z h1 h3; (try simp only [List.contains_cons, List.contains_nil, Bool.or_false, Bool.or_eq_false_iff, beq_eq_false_iff_ne, ne_eq] at h3); first | rfl | (simp [h1, h3]; done) | (simp_all; done))), ex8 _ _ _ _ _ _ _ _ ⟨rfl, rfl, dr_f1 hJ (by assumption)⟩⟩
    · rintro u _ _ h3 tk3 hDD1 F3 N3
      walk_at "norm"
      refine el8 hDD1 ?_
      clear hDD1
      rintro x3 y3 tx3 ty3 n3 vs row k3 ⟨rfl, rfl, hJ⟩
      (repeat' (first | ((fail_if_success (with_reducible (first | refine tW ?_ | refine tI ?_ | refine tF ?_ | refine tC ?_ | refine tX ?_ | refine tR 454 ?_ | refine tR 426 ?_ | refine tR 433 ?_ | refine tR 314 ?_ | refine tR 321 ?_ | refine tR 377 ?_ | refine tR 370 ?_ | refine tR 286 ?_ | refine tR 384 ?_ | refine tR 391 ?_ | refine tR 45 ?_ | refine tR 475 ?_ | refine tR 482 ?_ | refine tR 489 ?_ | refine tR 496 ?_ | refine tR 503 ?_ | refine tR 510 ?_))); first | ((with_reducible show WhileStep2 _ _ _ _ _ _ (Flow.ret _) _); dsimp only [WhileStep2]) | ((with_reducible show TurnP _ _ _ _ _ _ _ _ _ (Flow.ret _) _); dsimp only [TurnP]) | (k_unfold; (try dsimp only)) | (k_end; first | refine' next_q (by with_reducible assumption) ?_ | refine' ret_q (by with_reducible assumption) ?_ | refine' brk_q (by with_reducible assumption) ?_ | refine' cont_q (by with_reducible assumption) ?_) | (k_end; wrow_close) | walk1 | (dsimp only; walk1) | (leave1; walk_say "STEP leave1"; try dsimp only)) | fail "no step"))
      (rename News _ _ _ _ => N11)
      have hrow := hJ.2.2 (Nat.succ_ne_zero c)
      exact hret rfl _ _ _ vs row _ _ _ _ _ _ (by assumption) (nsub N11 fun p hp => List.mem_append_left _ hp) (Ne.symm hSR) offR0 hJ.1 hrow.1 (by have := Nat.le_of_ble_eq_true hc; have := hrow.2; omega))

end
section
noncomputable def TableS (w : World) : Prop :=
  ∀ (mean : ExcName → Option Value) (mg mb : Str → Option Value) (dp un : Nat) (gd : Option (List Code)) (cn : Str) (cs : Scope) (a : Addr) (ccd : Value) (cl : List (Str × Addr)) (outer : List Env) (A₀ : Around) (base h₀ : Heap) (L : Addr) (m : Str → Option Value) (nw : Led) (s : Shared) (S : Addr) (x y : Int) (tx ty : Tok) (n : Nat)
    (Q E : Value → Shared → Prop),
    Below A₀ base outer h₀ → Fr h₀ L s.heap m → (Mine.hd.heap_1 w.params).In h₀ → News h₀ L s.heap ((S, listOf #[.int x tx, .int y ty] n) :: nw) → (∀ p ∈ nw, p.1 ≠ S) → Top topProg LO2 mean mg mb h₀ → cs.kind = .function → dp + 8 < recursionLimit → un + 8 * 8 < cLine → (PySem.Challenge.rw_np0230_01.row.prog = PySem.Challenge.rw_np0230_01.row.prog →
    ∀ r T P' x' y' tx' ty' n' h' tk', Fr h₀ L h' m → News h₀ L h' ((S, listOf #[.int x' tx', .int y' ty'] n') :: (P' ++ nw)) → (∀ p ∈ P' ++ nw, p.1 ≠ S) → (∀ p ∈ P', ∀ q ∈ nw, q.1 ≠ p.1) → TbIn PySem.Challenge.rw_np0230_01.row.prog w P' r T → Q r { s with heap := h', toks := tk' }) →
    wpAny (model PySem.Challenge.rw_np0230_01.row.prog w) (ktrTop dp un gd cn cs L a ccd cl outer) (call (.ref 468) [.ref S]) Q E s
theorem valueAt_set {kvs : List (Str × Value)} {k k' : Str} {v : Value} : valueAt (stored kvs k v) k' = if k' = k then some v else valueAt kvs k' := by
  have hm : ∀ l : List (Str × Value), valueAt (l.map fun kv => if kv.1 = k then (kv.1, v) else kv) k' = if k' = k ∧ l.any (fun kv => kv.1 = k) then some v else valueAt l k' := by
    intro l
    induction l with
    | nil => simp [valueAt]
    | cons p l ih =>
      obtain ⟨a, b⟩ := p
      simp only [valueAt, List.map_cons, List.find?_cons, List.any_cons] at ih ⊢
      by_cases h1 : a = k
      · by_cases h2 : k' = k
        · simp [h1, h2]
        · have h3 : ¬ k = k' := fun e => h2 e.symm
          simp only [h1, if_true, h3, decide_false]
          rw [ih]
          simp [h2]
      · by_cases h2 : a = k'
        · have h3 : ¬ k' = k := fun e => h1 (h2.trans e)
          simp [h1, h2, h3]
        · simp only [if_neg h1, decide_eq_false h2, decide_eq_false h1, Bool.false_or]
          exact ih
  unfold stored
  split
  · rename_i h
    rw [hm, h]
    simp
  · rename_i h
    have hn : valueAt kvs k = none := by
      simp only [valueAt, Option.map_eq_none_iff, List.find?_eq_none]
      intro p hp hk
      exact h (List.any_eq_true.mpr ⟨p, hp, hk⟩)
    unfold valueAt at hn ⊢
    rw [List.find?_append]
    by_cases h2 : k' = k
    · subst h2
      rw [if_pos rfl, Option.map_eq_none_iff.mp hn]
      simp
    · have h3 : ¬ k = k' := fun e => h2 e.symm
      rw [if_neg h2]
      cases List.find? (fun kv => decide (kv.1 = k')) kvs with
      | none => simp [h3]
      | some q => rfl
noncomputable def Tb.set (T : Tb) (z : Nm) (f : Fx) : Tb := match z with
  | .a => { T with fa := f }
  | .b => { T with fb := f }
  | .c => { T with fc := f }
  | _ => T
theorem Tb.get_set (T : Tb) (z x : Nm) (f : Fx) (h1 : z ≠ .mi) (h2 : z ≠ .col) : (T.set z f).get x = if x = z then f else T.get x := by
  cases z <;> first | exact absurd rfl h1 | exact absurd rfl h2 | (cases x <;> rfl)
noncomputable def hasN (i : Nat) : Nm → Bool
  | .a => decide (0 < i)
  | .b => decide (1 < i)
  | .c => decide (2 < i)
  | _ => true
noncomputable def nmAt : Nat → Nm
  | 0 => .a
  | 1 => .b
  | _ => .c
theorem nm_at {i c : Nat} (h : (Str.ofString "abc").cps[i]? = some c) : i < 3 ∧ (⟨#[c]⟩ : Str) = (nmAt i).str := by
  match i, h with
  | 0, h => have h' : some 97 = some c := h; cases h'; exact ⟨by decide, by decide +kernel⟩
  | 1, h => have h' : some 98 = some c := h; cases h'; exact ⟨by decide, by decide +kernel⟩
  | 2, h => have h' : some 99 = some c := h; cases h'; exact ⟨by decide, by decide +kernel⟩
  | i + 3, h => have h' : (none : Option Nat) = some c := h; cases h'
theorem has_succ {i : Nat} (h : i < 3) {z : Nm} (hz : hasN (i + 1) z = true) : z = nmAt i ∨ hasN i z = true := by
  match i, h with
  | 0, _ => cases z <;> simp_all [hasN, nmAt]
  | 1, _ => cases z <;> simp_all [hasN, nmAt]
  | 2, _ => cases z <;> simp_all [hasN, nmAt]
theorem nmAt_ne (i : Nat) : nmAt i ≠ .mi ∧ nmAt i ≠ .col := by
  match i with
  | 0 => exact ⟨by decide, by decide⟩
  | 1 => exact ⟨by decide, by decide⟩
  | _ + 2 => exact ⟨nofun, nofun⟩
section
variable {prog : Program} {w : World} {A : Around} {E : Value → Shared → Prop} {s : Shared} {env : Env} {h₀ : Heap} {x : Str} {body : List Stmt} {Q : Flow → Shared → Prop}
theorem forS {y : Str} {t₀ : Tok} {m₀ : Str → Option Value} {M P : Led} (stored : List Str) (J : Nat → (Str → Option Value) → Led → Led → Prop)
    (hh : A.handled = none) (hy : y.cps.all (· < 128) = true) (F : Fr h₀ env.locals s.heap m₀) (N : News h₀ env.locals s.heap (M ++ P)) (hj : J 0 m₀ M P)
    (turn : ∀ i c t u Mx Px h tk own, y.cps[i]? = some c → OwnOff own ((Mx ++ Px).map (·.1)) → J i u Mx Px → Fr h₀ env.locals h (fun z => if z = x then some (.str ⟨#[c]⟩ t) else if stored.contains z then u z else m₀ z) → News h₀ env.locals h ((own ++ Mx) ++ Px) →
      wpAny (model prog w) A (execs body env) (TurnP h₀ env.locals x stored m₀ (J (i + 1)) own { s with heap := h, toks := tk } Q) E { s with heap := h, toks := tk })
    (done : ∀ u Mx Px h tk, J y.cps.size u Mx Px → Fr h₀ env.locals h (fun z => if z = x then u z else if stored.contains z then u z else m₀ z) → News h₀ env.locals h (Mx ++ Px) → Q .next { s with heap := h, toks := tk }) :
    wpAny (model prog w) A (pyIter (.str y t₀)) (fun it s₂ => LoopAtV prog w A h₀ env x body Q E it s₂) E s := by
  refine wpAny_pyIter_ascii hy ?_
  refine kdr_loop (fun i m nx => ∃ Mx Px, nx = Mx ++ Px ∧ (∀ z, z ≠ x → stored.contains z = false → m z = m₀ z) ∧ J i m Mx Px) (Walks.strAscii hh _ y t₀) (fun _ h => h) (fun _ h => h) ?_ ?_ ?_ ?_ ⟨_, Heap.get?_push_size _ rfl, rfl, rfl⟩ (F.push _) (fun p hp => ⟨Heap.get?_push_of_some _ (N p hp).1, (N p hp).2⟩) ⟨M, P, rfl, fun _ _ _ => rfl, hj⟩ ?_ ?_
  · intro i h hi b hb
    rw [List.mem_singleton.mp hb]
    exact ⟨_, hi.choose_spec.1⟩
  · intro hm
    exact absurd F.ns.lt ((List.mem_singleton.mp hm) ▸ Nat.lt_irrefl _)
  · intro b hb
    rw [List.mem_singleton.mp hb]
    exact next_is_new F
  · intro p hp hI
    exact absurd (Heap.lt_size (N p hp).1) ((List.mem_singleton.mp hI) ▸ Nat.lt_irrefl _)
  · rintro i v m₁ nx h tk own hi ⟨c, t, hc, rfl⟩ ho ⟨Mx, Px, rfl, hm, hJ⟩ F₁ N₁
    exact wpAny_mono (turn i c t m₁ Mx Px h tk own hc ho hJ (by rw [← over_eq _ hm]; exact F₁) (fun p hp => N₁ p (led3 p hp))) (turn_out fun m Mx Px hm hJ => ⟨Mx, Px, rfl, hm, hJ⟩) (fun _ _ e => e)
  · rintro m₁ nx h tk ⟨Mx, Px, rfl, hm, hJ⟩ F₁ N₁
    exact done m₁ Mx Px h tk hJ (by rw [← over_eq' hm]; exact F₁) N₁
end
structure TaJ (w : World) (S d : Addr) (nw : Led) (i : Nat) (o : Obj) (X : Led) (T : Tb) (kvs : List (Str × Value)) : Prop where
  dct : o.IsDictOf (PySem.strKind PySem.Challenge.rw_np0230_01.row.prog w) kvs
  len : kvs.length ≤ 2 + i
  fr : ∀ p ∈ X, ∀ q ∈ nw, q.1 ≠ p.1
  offS : ∀ p ∈ X ++ nw, p.1 ≠ S
  offD : ∀ p ∈ X ++ nw, p.1 ≠ d
  has : ∀ z : Nm, hasN i z = true → ∃ u, valueAt kvs z.str = some u ∧ FxIn X u (T.get z)
theorem ta_start {w : World} {S d a b : Addr} {nw : Led} {o : Obj} {n1 n2 : Nat} {t1 t2 t3 t4 t5 t6 : Tok} {g h : Heap} {L : Addr} {q : Addr × Obj} (_N : News g L h ((b, tupO [.str (Str.ofString "right") t5, .int 5 t6] n2) :: (a, tupO [.str (Str.ofString "left") t3, .int 6 t4] n1) :: (d, o) :: q :: nw)) (hd : o.IsDictOf (PySem.strKind PySem.Challenge.rw_np0230_01.row.prog w) (strPairs [(.str (Str.ofString "-") t1, .ref a), (.str (Str.ofString ":") t2, .ref b)]))
    (l1 : S < d ∧ AllLt d nw) (l2 : d < a ∧ S < a ∧ AllLt a nw) (l3 : a < b ∧ d < b ∧ S < b ∧ AllLt b nw) (off : ∀ p ∈ nw, p.1 ≠ S) :
    TaJ w S d nw 0 o [(b, tupO [.str (Str.ofString "right") t5, .int 5 t6] n2), (a, tupO [.str (Str.ofString "left") t3, .int 6 t4] n1)] ⟨⟨.l, 0⟩, ⟨.l, 0⟩, ⟨.l, 0⟩⟩ [(Nm.mi.str, .ref a), (Nm.col.str, .ref b)] where
  dct := hd
  len := by simp
  fr := by
    intro p hp q hq
    simp only [List.mem_cons, List.not_mem_nil, or_false] at hp
    rcases hp with rfl | rfl
    · exact Nat.ne_of_lt (of_allLt l3.2.2.2 q hq)
    · exact Nat.ne_of_lt (of_allLt l2.2.2 q hq)
  offS := by
    intro p hp
    simp only [List.mem_append, List.mem_cons, List.not_mem_nil, or_false] at hp
    rcases hp with (rfl | rfl) | hp
    · exact Nat.ne_of_gt l3.2.2.1
    · exact Nat.ne_of_gt l2.2.1
    · exact off p hp
  offD := by
    intro p hp
    simp only [List.mem_append, List.mem_cons, List.not_mem_nil, or_false] at hp
    rcases hp with (rfl | rfl) | hp
    · exact Nat.ne_of_gt l3.2.1
    · exact Nat.ne_of_gt l2.1
    · exact Nat.ne_of_lt (of_allLt l1.2 p hp)
  has := by
    intro z hz
    cases z with
    | mi => exact ⟨.ref a, by simp [valueAt], a, _, _, _, rfl, .tail _ (.head _)⟩
    | col => exact ⟨.ref b, by simp [valueAt, show ¬ Nm.mi.str = Nm.col.str from fun e => nomatch nm_inj _ _ e], b, _, _, _, rfl, .head _⟩
    | a => simp [hasN] at hz
    | b => simp [hasN] at hz
    | c => simp [hasN] at hz
theorem ta_begin {w : World} {S d a b : Addr} {nw : Led} {o : Obj} {n1 n2 : Nat} {t1 t2 t3 t4 t5 t6 : Tok} {g h : Heap} {L : Addr} {q : Addr × Obj} (N : News g L h ((b, tupO [.str (Str.ofString "right") t5, .int 5 t6] n2) :: (a, tupO [.str (Str.ofString "left") t3, .int 6 t4] n1) :: (d, o) :: q :: nw)) (hd : o.IsDictOf (PySem.strKind PySem.Challenge.rw_np0230_01.row.prog w) (strPairs [(.str (Str.ofString "-") t1, .ref a), (.str (Str.ofString ":") t2, .ref b)]))
    (lo : (d == sysModules) = false) (l1 : S < d ∧ AllLt d nw) (l2 : d < a ∧ S < a ∧ AllLt a nw) (l3 : a < b ∧ d < b ∧ S < b ∧ AllLt b nw) (off : ∀ p ∈ nw, p.1 ≠ S) :
    ∃ D O X T kvs, D = d ∧ O = o ∧ News g L h (q :: (D, O) :: (X ++ nw)) ∧ S < D ∧ (D == sysModules) = false ∧ TaJ w S D nw 0 O X T kvs := by
  refine ⟨d, o, _, _, _, rfl, rfl, nsub N ?_, l1.1, lo, ta_start N hd l1 l2 l3 off⟩
  intro p hp
  simp only [List.mem_cons, List.mem_append, List.not_mem_nil, or_false] at hp ⊢
  rcases hp with h | h | (h | h) | h <;> simp only [h, true_or, or_true]
theorem TaJ.next {w : World} {S d D : Addr} {nw : Led} {i : Nat} {o o' : Obj} {X : Led} {T : Tb} {kvs : List (Str × Value)} (h : TaJ w S d nw i o X T kvs) (hi : i < 3) {wy : Wy} {lv n : Nat} {t u : Tok}
    (hd : o'.IsDictOf (PySem.strKind PySem.Challenge.rw_np0230_01.row.prog w) (stored kvs (nmAt i).str (.ref D))) (hl : ∀ p ∈ X ++ nw, p.1 < D) (hS : S < D) (hD : d < D) :
    TaJ w S d nw (i + 1) o' ((D, tupO [.str wy.str t, .int (lv : Int) u] n) :: X) (T.set (nmAt i) ⟨wy, lv⟩) (stored kvs (nmAt i).str (.ref D)) where
  dct := hd
  len := by have := stored_length_le kvs (nmAt i).str (.ref D); have := h.len; omega
  fr := by
    intro p hp q hq
    rcases List.mem_cons.mp hp with rfl | hp
    · exact Nat.ne_of_lt (hl q (List.mem_append_right _ hq))
    · exact h.fr p hp q hq
  offS := by
    intro p hp
    rcases List.mem_cons.mp hp with rfl | hp
    · exact Nat.ne_of_gt hS
    · exact h.offS p hp
  offD := by
    intro p hp
    rcases List.mem_cons.mp hp with rfl | hp
    · exact Nat.ne_of_gt hD
    · exact h.offD p hp
  has := by
    intro z hz
    have hn := nmAt_ne i
    rw [valueAt_set, Tb.get_set _ _ _ _ hn.1 hn.2]
    by_cases e : z = nmAt i
    · subst e
      rw [if_pos rfl, if_pos rfl]
      exact ⟨_, rfl, D, _, _, _, rfl, .head _⟩
    · rw [if_neg e, if_neg fun q => e (nm_inj _ _ q)]
      obtain ⟨v, hv, a, t', u', n', e', hm⟩ := h.has z ((has_succ hi hz).resolve_left e)
      exact ⟨v, hv, a, t', u', n', e', .tail _ hm⟩
theorem TaJ.tb {w : World} {S d : Addr} {nw : Led} {o : Obj} {X : Led} {T : Tb} {kvs : List (Str × Value)} (h : TaJ w S d nw 3 o X T kvs) (lo : (d == sysModules) = false) : TbIn PySem.Challenge.rw_np0230_01.row.prog w ((d, o) :: X) (.ref d) T := by
  refine ⟨d, o, kvs, rfl, .head _, lo, h.dct, fun x => ?_⟩
  obtain ⟨v, hv, a, t', u', n', e', hm⟩ := h.has x (by cases x <;> rfl)
  exact ⟨v, hv, a, t', u', n', e', .tail _ hm⟩
theorem ta_way {d : Int} {t1 t2 t3 : Tok} (h0 : 0 ≤ d) (h4 : d < 3) : ∃ (x : Wy) (t : Tok), ([.str (Str.ofString "left") t1, .str (Str.ofString "right") t2, .str (Str.ofString "none") t3] : List Value)[d.toNat]? = some (.str x.str t) := by
  obtain rfl | rfl | rfl : d = 0 ∨ d = 1 ∨ d = 2 := by omega
  · exact ⟨.l, t1, rfl⟩
  · exact ⟨.r, t2, rfl⟩
  · exact ⟨.n, t3, rfl⟩
theorem ta_sub {own nw X : Led} {p q : Addr × Obj} : ∀ r ∈ p :: q :: (own ++ (X ++ nw)), r ∈ (own ++ (p :: q :: (X ++ nw))) ++ [] := by
  intro r hr
  simp only [List.mem_cons, List.mem_append] at hr ⊢
  rcases hr with h | h | h | h | h <;> simp [h]
theorem ta_sub2 {own nw X Y : Led} {p p' q q' : Addr × Obj} (hs : ∀ r, r = p ∨ r = q ∨ r = q' ∨ r ∈ own ++ (X ++ nw) → r ∈ Y) : ∀ r ∈ (own ++ (p :: q :: ((q' :: X) ++ nw))) ++ [], r ∈ Y := by
  intro r hr
  refine hs r ?_
  simp only [List.mem_cons, List.mem_append, List.not_mem_nil, or_false] at hr ⊢
  rcases hr with h | h | h | (h | h) | h <;> simp [h]
theorem ta_sub3 {own nw X : Led} {p q r e : Addr × Obj} : ∀ x ∈ (own ++ (p :: q :: ((e :: X) ++ nw))) ++ [], x ∈ e :: p :: r :: q :: (own ++ (X ++ nw)) := by
  intro x hx
  simp only [List.mem_cons, List.mem_append, List.not_mem_nil, or_false] at hx ⊢
  rcases hx with h | h | h | (h | h) | h <;> simp [h]
theorem ta_own {own nw X : Led} {S D E : Addr} {o1 o1' o2 o2' q : Obj} (ho : OwnOff own (((S, o1) :: (D, o2) :: (X ++ nw) ++ []).map fun x : Addr × Obj => x.1)) (hE : ∀ p ∈ own, p.1 < E) : OwnOff own (((S, o1') :: (D, o2') :: (((E, q) :: X) ++ nw) ++ []).map fun x : Addr × Obj => x.1) := by
  intro p hp b hb
  simp only [List.append_nil, List.cons_append, List.map_cons, List.mem_cons] at hb
  rcases hb with rfl | rfl | rfl | hb
  · exact ho p hp _ (.head _)
  · exact ho p hp _ (.tail _ (.head _))
  · exact Nat.ne_of_lt (hE p hp)
  · exact ho p hp _ (by simp only [List.append_nil, List.map_cons]; exact .tail _ (.tail _ hb))
local macro_rules | `(tactic| walk_at "eval Dict") => `(tactic| (k_here; k_dflt (refine' kdn_str ?q ?F ?N ?b ?a ?l ?e ?n ?_; (case q => rfl); (case F => k_asm); (case N => first | k_asm | exact News.nil); (case b => exact Top.nolimit (by k_asm)); (case a => rfl); (case l => rfl); (case e => exact List.cons_ne_nil _ _); (case n => exact Nat.le_of_ble_eq_true rfl)); intro d' h' o' F' N' l1 lo' hd'; (try k_lt l1)))
theorem table_spec (w : World) (hTk : TakeDS w) : TableS w := by
  unfold TableS
  k_fill
  rintro mean mg mb dp un gd cn cs a ccd cl outer A₀ base h₀ L m nw s S x y tx ty n Q E B F X N off TT hk hd hu hret
  refine wpAny_call ?_
  k_dflt ktr_enter
  w_strict (
    walk_at "norm"
    rename_i g1 L1 h1 FG1 F1 N1 B1 X1 T1
    (replace F1 := fr_lk [(Str.ofString "source", .ref S)] F1)
    (dsimp only [lkm] at F1)
    (repeat' (first | ((fail_if_success (with_reducible (first | refine tW ?_ | refine tI ?_ | refine tF ?_ | refine tC ?_ | refine tX ?_ | refine tR 454 ?_ | show wpAny _ _ (setItem _ _ _) _ _ _ | show wpAny _ _ (subscriptTail _ _ (Value.ref _) (Value.int _ _)) _ _ _ | show wpAny _ _ (pyIter (Value.str _ _)) _ _ _ | refine tR 426 ?_ | refine tR 433 ?_ | refine tR 314 ?_ | refine tR 321 ?_ | refine tR 377 ?_ | refine tR 370 ?_ | refine tR 286 ?_ | refine tR 384 ?_ | refine tR 391 ?_ | refine tR 45 ?_ | refine tR 475 ?_ | refine tR 482 ?_ | refine tR 489 ?_ | refine tR 496 ?_ | refine tR 503 ?_ | refine tR 510 ?_))); first | ((with_reducible show WhileStep2 _ _ _ _ _ _ (Flow.ret _) _); dsimp only [WhileStep2]) | ((with_reducible show TurnP _ _ _ _ _ _ _ _ _ (Flow.ret _) _); dsimp only [TurnP]) | (k_unfold; (try dsimp only)) | (k_end; first | refine' next_q (by with_reducible assumption) ?_ | refine' ret_q (by with_reducible assumption) ?_ | refine' brk_q (by with_reducible assumption) ?_ | refine' cont_q (by with_reducible assumption) ?_) | (k_end; wrow_close) | walk1 | (dsimp only; walk1) | (leave1; walk_say "STEP leave1"; try dsimp only)) | fail "no step"))
    (rename Fr _ _ _ _ => F2)
    (rename News _ _ _ _ => N2)
    (rename (_ < _ ∧ _ < _ ∧ _ < _ ∧ AllLt _ _) => l3)
    (rename (_ < _ ∧ _ < _ ∧ AllLt _ _) => l2)
    (rename (_ < _ ∧ AllLt _ _) => l1)
    (rename Obj.IsDictOf _ _ _ => hdct)
    (rename ((_ : Addr) == sysModules) = false => lo)
    refine el5 (ta_begin N2 hdct lo l1 l2 l3 off) ?_
    rintro D O X0 T0 kvs0 ⟨hD, hO, N3, hSD, lo3, hJ0⟩
    subst hD hO
    clear N2 hdct l1 l2 l3 lo
    refine For_invVF F2 rfl rfl ?_
    (repeat' (first | ((fail_if_success (with_reducible (first | refine tW ?_ | refine tI ?_ | refine tF ?_ | refine tC ?_ | refine tX ?_ | refine tR 454 ?_ | show wpAny _ _ (setItem _ _ _) _ _ _ | show wpAny _ _ (subscriptTail _ _ (Value.ref _) (Value.int _ _)) _ _ _ | show wpAny _ _ (pyIter (Value.str _ _)) _ _ _ | refine tR 426 ?_ | refine tR 433 ?_ | refine tR 314 ?_ | refine tR 321 ?_ | refine tR 377 ?_ | refine tR 370 ?_ | refine tR 286 ?_ | refine tR 384 ?_ | refine tR 391 ?_ | refine tR 45 ?_ | refine tR 475 ?_ | refine tR 482 ?_ | refine tR 489 ?_ | refine tR 496 ?_ | refine tR 503 ?_ | refine tR 510 ?_))); first | ((with_reducible show WhileStep2 _ _ _ _ _ _ (Flow.ret _) _); dsimp only [WhileStep2]) | ((with_reducible show TurnP _ _ _ _ _ _ _ _ _ (Flow.ret _) _); dsimp only [TurnP]) | (k_unfold; (try dsimp only)) | (k_end; first | refine' next_q (by with_reducible assumption) ?_ | refine' ret_q (by with_reducible assumption) ?_ | refine' brk_q (by with_reducible assumption) ?_ | refine' cont_q (by with_reducible assumption) ?_) | (k_end; wrow_close) | walk1 | (dsimp only; walk1) | (leave1; walk_say "STEP leave1"; try dsimp only)) | fail "no step"))
    (rename Fr _ _ _ _ => F4)
    (rename News _ _ _ _ => N4)
    refine forS (M := (S, listOf #[.int x tx, .int y ty] n) :: (D, O) :: (X0 ++ nw)) (P := []) [] (fun i u Mx Px => ∃ x y tx ty n o X T kvs, Mx = (S, listOf #[.int x tx, .int y ty] n) :: (D, o) :: (X ++ nw) ∧ Px = [] ∧ TaJ w S D nw i o X T kvs) rfl (by decide +kernel) F4 (by rw [List.append_nil]; exact N4) ⟨x, y, tx, ty, n, _, _, _, _, rfl, rfl, hJ0⟩ ?turn ?done
    · rintro i c t u _ _ h6 tk6 own hc ho hDD1 F5 N5
      walk_at "norm"
      refine el9 hDD1 ?_
      clear hDD1
      rintro x3 y3 tx3 ty3 n3 o3 X3 T3 kvs3 ⟨rfl, rfl, hJ⟩
      clear F4 N4
      obtain ⟨hi, hcs⟩ := nm_at hc
      clear hc
      dsimp only [List.contains_nil] at F5
      simp only [Bool.false_eq_true, if_false, hcs] at F5
      have N6 := nsub N5 (ta_sub (own := own))
      clear N5
      have offS := dr_off ho (.head _) hJ.offS
      have offD := dr_off ho (.tail _ (.head _)) hJ.offD
      (repeat' (first | ((fail_if_success (with_reducible (first | refine tW ?_ | refine tI ?_ | refine tF ?_ | refine tC ?_ | refine tX ?_ | refine tR 454 ?_ | show wpAny _ _ (setItem _ _ _) _ _ _ | show wpAny _ _ (subscriptTail _ _ (Value.ref _) (Value.int _ _)) _ _ _ | show wpAny _ _ (pyIter (Value.str _ _)) _ _ _ | refine tR 426 ?_ | refine tR 433 ?_ | refine tR 314 ?_ | refine tR 321 ?_ | refine tR 377 ?_ | refine tR 370 ?_ | refine tR 286 ?_ | refine tR 384 ?_ | refine tR 391 ?_ | refine tR 45 ?_ | refine tR 475 ?_ | refine tR 482 ?_ | refine tR 489 ?_ | refine tR 496 ?_ | refine tR 503 ?_ | refine tR 510 ?_))); first | ((with_reducible show WhileStep2 _ _ _ _ _ _ (Flow.ret _) _); dsimp only [WhileStep2]) | ((with_reducible show TurnP _ _ _ _ _ _ _ _ _ (Flow.ret _) _); dsimp only [TurnP]) | (k_unfold; (try dsimp only)) | (k_end; first | refine' next_q (by with_reducible assumption) ?_ | refine' ret_q (by with_reducible assumption) ?_ | refine' brk_q (by with_reducible assumption) ?_ | refine' cont_q (by with_reducible assumption) ?_) | (k_end; wrow_close) | walk1 | (dsimp only; walk1) | (leave1; walk_say "STEP leave1"; try dsimp only)) | fail "no step"))
      (rename Fr _ _ _ _ => F7)
      (rename News _ _ _ _ => N7)
      (rename (_ < _ ∧ _ < _ ∧ AllLt _ _) => l7)
      have offS7 := off_cons (q := (_, listOf #[Value.str (Str.ofString "left") tkX, .str (Str.ofString "right") (tkX + 1), .str (Str.ofString "none") (tkX + 1 + 1)] 0)) (Nat.ne_of_gt l7.1) (off_cons (q := (D, o3)) (Nat.ne_of_gt hSD) offS)
      refine' hTk _ _ _ _ _ _ _ _ _ _ _ _ _ _ _ _ _ ((_, _) :: (D, o3) :: (own ++ (X3 ++ nw))) _ S x3 y3 tx3 ty3 n3 3 _ _ _ (by k_asm) F7 (by k_asm) (nsub N7 swp) offS7 (by k_asm) rfl (by decide) (by decide) (by ktr_room) (by ktr_units) ?_
      intro _ d4 x4 y4 td4 tx4 ty4 n4 h4 tk4 F8 N8 hd0 hd4
      clear F7 N7
      obtain ⟨wy, tw, hway⟩ := ta_way (t1 := tkX) (t2 := tkX + 1) (t3 := tkX + 1 + 1) hd0 hd4
      (repeat' (first | ((fail_if_success (with_reducible (first | refine tW ?_ | refine tI ?_ | refine tF ?_ | refine tC ?_ | refine tX ?_ | refine tR 454 ?_ | show wpAny _ _ (setItem _ _ _) _ _ _ | show wpAny _ _ (subscriptTail _ _ (Value.ref _) (Value.int _ _)) _ _ _ | show wpAny _ _ (pyIter (Value.str _ _)) _ _ _ | refine tR 426 ?_ | refine tR 433 ?_ | refine tR 314 ?_ | refine tR 321 ?_ | refine tR 377 ?_ | refine tR 370 ?_ | refine tR 286 ?_ | refine tR 384 ?_ | refine tR 391 ?_ | refine tR 45 ?_ | refine tR 475 ?_ | refine tR 482 ?_ | refine tR 489 ?_ | refine tR 496 ?_ | refine tR 503 ?_ | refine tR 510 ?_))); first | ((with_reducible show WhileStep2 _ _ _ _ _ _ (Flow.ret _) _); dsimp only [WhileStep2]) | ((with_reducible show TurnP _ _ _ _ _ _ _ _ _ (Flow.ret _) _); dsimp only [TurnP]) | (k_unfold; (try dsimp only)) | (k_end; first | refine' next_q (by with_reducible assumption) ?_ | refine' ret_q (by with_reducible assumption) ?_ | refine' brk_q (by with_reducible assumption) ?_ | refine' cont_q (by with_reducible assumption) ?_) | (k_end; wrow_close) | walk1 | (dsimp only; walk1) | (leave1; walk_say "STEP leave1"; try dsimp only)) | fail "no step"))
      refine kba_turn (value' := PySem.Expr.Name (PySem.Str.ofString "_") ⟨0, 0, 0, 0⟩) (fun _ => rfl) ?_
      refine item_listL (ws := [Value.str (Str.ofString "left") tkX, .str (Str.ofString "right") (tkX + 1), .str (Str.ofString "none") (tkX + 1 + 1)]) (News.isList N8 (.tail _ (.head _))) hd0 (by omega) hway ?_ (by with_unfolding_all rfl) (fun _ => rfl)
      (repeat' (first | ((fail_if_success (with_reducible (first | refine tW ?_ | refine tI ?_ | refine tF ?_ | refine tC ?_ | refine tX ?_ | refine tR 454 ?_ | show wpAny _ _ (setItem _ _ _) _ _ _ | show wpAny _ _ (subscriptTail _ _ (Value.ref _) (Value.int _ _)) _ _ _ | show wpAny _ _ (pyIter (Value.str _ _)) _ _ _ | refine tR 426 ?_ | refine tR 433 ?_ | refine tR 314 ?_ | refine tR 321 ?_ | refine tR 377 ?_ | refine tR 370 ?_ | refine tR 286 ?_ | refine tR 384 ?_ | refine tR 391 ?_ | refine tR 45 ?_ | refine tR 475 ?_ | refine tR 482 ?_ | refine tR 489 ?_ | refine tR 496 ?_ | refine tR 503 ?_ | refine tR 510 ?_))); first | ((with_reducible show WhileStep2 _ _ _ _ _ _ (Flow.ret _) _); dsimp only [WhileStep2]) | ((with_reducible show TurnP _ _ _ _ _ _ _ _ _ (Flow.ret _) _); dsimp only [TurnP]) | (k_unfold; (try dsimp only)) | (k_end; first | refine' next_q (by with_reducible assumption) ?_ | refine' ret_q (by with_reducible assumption) ?_ | refine' brk_q (by with_reducible assumption) ?_ | refine' cont_q (by with_reducible assumption) ?_) | (k_end; wrow_close) | walk1 | (dsimp only; walk1) | (leave1; walk_say "STEP leave1"; try dsimp only)) | fail "no step"))
      (rename Fr _ _ _ _ => F9)
      (rename News _ _ _ _ => N9)
      refine' hTk _ _ _ _ _ _ _ _ _ _ _ _ _ _ _ _ _ ((_, _) :: (D, o3) :: (own ++ (X3 ++ nw))) _ S x4 y4 tx4 ty4 n4 3 _ _ _ (by k_asm) F9 (by k_asm) N9 offS7 (by k_asm) rfl (by decide) (by decide) (by ktr_room) (by ktr_units) ?_
      intro _ d6 x6 y6 td6 tx6 ty6 n6 h6' tkX' F10 N10 ge0 ge4
      clear F9 N9 hd0 hd4 hway
      obtain ⟨e, rfl⟩ : ∃ c : Nat, d6 = c := ⟨d6.toNat, by omega⟩
      clear ge0 ge4
      (repeat' (first | ((fail_if_success (with_reducible (first | refine tW ?_ | refine tI ?_ | refine tF ?_ | refine tC ?_ | refine tX ?_ | refine tR 454 ?_ | show wpAny _ _ (setItem _ _ _) _ _ _ | show wpAny _ _ (subscriptTail _ _ (Value.ref _) (Value.int _ _)) _ _ _ | show wpAny _ _ (pyIter (Value.str _ _)) _ _ _ | refine tR 426 ?_ | refine tR 433 ?_ | refine tR 314 ?_ | refine tR 321 ?_ | refine tR 377 ?_ | refine tR 370 ?_ | refine tR 286 ?_ | refine tR 384 ?_ | refine tR 391 ?_ | refine tR 45 ?_ | refine tR 475 ?_ | refine tR 482 ?_ | refine tR 489 ?_ | refine tR 496 ?_ | refine tR 503 ?_ | refine tR 510 ?_))); first | ((with_reducible show WhileStep2 _ _ _ _ _ _ (Flow.ret _) _); dsimp only [WhileStep2]) | ((with_reducible show TurnP _ _ _ _ _ _ _ _ _ (Flow.ret _) _); dsimp only [TurnP]) | (k_unfold; (try dsimp only)) | (k_end; first | refine' next_q (by with_reducible assumption) ?_ | refine' ret_q (by with_reducible assumption) ?_ | refine' brk_q (by with_reducible assumption) ?_ | refine' cont_q (by with_reducible assumption) ?_) | (k_end; wrow_close) | walk1 | (dsimp only; walk1) | (leave1; walk_say "STEP leave1"; try dsimp only)) | fail "no step"))
      (rename Fr _ _ _ _ => F11)
      (rename News _ _ _ _ => N11)
      rw [show (5 : Int) + (e : Int) = ((5 + e : Nat) : Int) by omega] at N11
      (rename (_ < _ ∧ _ < _ ∧ _ < _ ∧ AllLt _ _) => l11)
      refine kda_set (knd := PySem.strKind _ _) F11 N11 (.tail (Nat.ne_of_gt l11.2.2.1) (.tail (Nat.ne_of_lt hSD) (.tail (Nat.ne_of_gt l7.2.1) (.head offD)))) hJ.dct (strKind_is _ _ _ _) (by rw [sizeLine_eq]; have := hJ.len; omega) fun h12 o12 F12 N12 hd12 => ?_
      (repeat' (first | ((fail_if_success (with_reducible (first | refine tW ?_ | refine tI ?_ | refine tF ?_ | refine tC ?_ | refine tX ?_ | refine tR 454 ?_ | show wpAny _ _ (setItem _ _ _) _ _ _ | show wpAny _ _ (subscriptTail _ _ (Value.ref _) (Value.int _ _)) _ _ _ | show wpAny _ _ (pyIter (Value.str _ _)) _ _ _ | refine tR 426 ?_ | refine tR 433 ?_ | refine tR 314 ?_ | refine tR 321 ?_ | refine tR 377 ?_ | refine tR 370 ?_ | refine tR 286 ?_ | refine tR 384 ?_ | refine tR 391 ?_ | refine tR 45 ?_ | refine tR 475 ?_ | refine tR 482 ?_ | refine tR 489 ?_ | refine tR 496 ?_ | refine tR 503 ?_ | refine tR 510 ?_))); first | ((with_reducible show WhileStep2 _ _ _ _ _ _ (Flow.ret _) _); dsimp only [WhileStep2]) | ((with_reducible show TurnP _ _ _ _ _ _ _ _ _ (Flow.ret _) _); dsimp only [TurnP]) | (k_unfold; (try dsimp only)) | (k_end; first | refine' next_q (by with_reducible assumption) ?_ | refine' ret_q (by with_reducible assumption) ?_ | refine' brk_q (by with_reducible assumption) ?_ | refine' cont_q (by with_reducible assumption) ?_) | (k_end; wrow_close) | walk1 | (dsimp only; walk1) | (leave1; walk_say "STEP leave1"; try dsimp only)) | fail "no step"))
      exact ex5 _ _ _ ((S, _) :: (D, o12) :: (((_, _) :: X3) ++ nw)) [] ⟨rfl, by assumption, nsub N12 ta_sub3, ta_own ho (fun p hp => of_allLt l11.2.2.2 p (List.mem_append_left _ hp)), by (first | (intro z h1 h3; (repeat' (first | with_reducible rfl | with_reducible refine sm1 h1 ?_ | with_reducible refine sm2 h3 ?_ | with_reducible refine sm4 ?_ | with_reducible refine sm3 h3 (by kfm_turns) ?_)); done) | (intro z h1 h3; (try simp only [List.contains_cons, List.contains_nil, Bool.or_false, Bool.or_eq_false_iff, beq_eq_false_iff_ne, ne_eq] at h3); first | rfl | (simp [h1, h3]; done) | (simp_all; done))), ex9 _ _ _ _ _ _ _ _ _ ⟨rfl, rfl, hJ.next hi hd12 (fun p hp => of_allLt l11.2.2.2 p (List.mem_append_right _ hp)) l11.1 l11.2.2.1⟩⟩
    · rintro u _ _ h3 tk3 hDD1 F3 N3
      walk_at "norm"
      refine el9 hDD1 ?_
      clear hDD1
      rintro x3 y3 tx3 ty3 n3 o3 X3 T3 kvs3 ⟨rfl, rfl, hJ⟩
      (repeat' (first | ((fail_if_success (with_reducible (first | refine tW ?_ | refine tI ?_ | refine tF ?_ | refine tC ?_ | refine tX ?_ | refine tR 454 ?_ | show wpAny _ _ (setItem _ _ _) _ _ _ | show wpAny _ _ (subscriptTail _ _ (Value.ref _) (Value.int _ _)) _ _ _ | show wpAny _ _ (pyIter (Value.str _ _)) _ _ _ | refine tR 426 ?_ | refine tR 433 ?_ | refine tR 314 ?_ | refine tR 321 ?_ | refine tR 377 ?_ | refine tR 370 ?_ | refine tR 286 ?_ | refine tR 384 ?_ | refine tR 391 ?_ | refine tR 45 ?_ | refine tR 475 ?_ | refine tR 482 ?_ | refine tR 489 ?_ | refine tR 496 ?_ | refine tR 503 ?_ | refine tR 510 ?_))); first | ((with_reducible show WhileStep2 _ _ _ _ _ _ (Flow.ret _) _); dsimp only [WhileStep2]) | ((with_reducible show TurnP _ _ _ _ _ _ _ _ _ (Flow.ret _) _); dsimp only [TurnP]) | (k_unfold; (try dsimp only)) | (k_end; first | refine' next_q (by with_reducible assumption) ?_ | refine' ret_q (by with_reducible assumption) ?_ | refine' brk_q (by with_reducible assumption) ?_ | refine' cont_q (by with_reducible assumption) ?_) | (k_end; wrow_close) | walk1 | (dsimp only; walk1) | (leave1; walk_say "STEP leave1"; try dsimp only)) | fail "no step"))
      exact hret rfl _ T3 ((D, o3) :: X3) _ _ _ _ _ _ _ (by assumption) (nsub (by assumption) (fun p hp => List.mem_append_left _ hp)) (off_cons (Nat.ne_of_gt hSD) hJ.offS) (by
        intro p hp q hq
        rcases List.mem_cons.mp hp with rfl | hp
        · exact hJ.offD q (List.mem_append_right _ hq)
        · exact hJ.fr p hp q hq) (hJ.tb lo3))

end
section
noncomputable def ResolvedS (w : World) : Prop := RSpec w 440 (D := Tb × List It) (fun _ => 80)
    (fun P vs d => ∃ iv kv, vs = [iv, kv] ∧ ItemsP P iv d.2 ∧ KnIn w P kv d.1 ∧ vld d.2 = true ∧ d.2.length ≤ 11)
    (fun P r d => ∃ t, boundF d.1 d.2 [] = some t ∧ NodeIn P r t.nt) (fun d => boundF d.1 d.2 [] = none)
theorem resolved_spec (w : World) (hBo : BoundS w) : ResolvedS w := by
  unfold ResolvedS RSpec
  k_fill
  rintro mean mg mb dp un gd cn cs a ccd cl outer A₀ base h₀ L m M P s vs ⟨T, row⟩ Q E B F X N TT hk hDD1 hd hu hret hrz
  obtain ⟨iv, kv, rfl, hit, hkn, hvl, hrl⟩ := hDD1
  refine el3 (id hit) ?_
  rintro la ivs nn ⟨rfl, hla, hits⟩
  refine el3 (id hkn) ?_
  rintro dk ok kvs ⟨rfl, hdk, -⟩
  dsimp only at hd hu hla hits hdk hvl hrl
  refine wpAny_call ?_
  k_dflt ktr_enter
  w_strict (
    walk_at "norm"
    rename_i g1 L1 h1 FG1 F1 N1 B1 X1 T1
    (replace F1 := fr_lk [(Str.ofString "table", .ref dk), (Str.ofString "items", .ref la)] F1)
    (dsimp only [lkm] at F1)
    (repeat' (first | ((fail_if_success (with_reducible (first | refine tW ?_ | refine tI ?_ | refine tF ?_ | refine tC ?_ | refine tX ?_ | refine tR 405 ?_ | refine tR 426 ?_ | refine tR 433 ?_ | refine tR 314 ?_ | refine tR 321 ?_ | refine tR 377 ?_ | refine tR 370 ?_ | refine tR 286 ?_ | refine tR 384 ?_ | refine tR 391 ?_ | refine tR 45 ?_ | refine tR 475 ?_ | refine tR 482 ?_ | refine tR 489 ?_ | refine tR 496 ?_ | refine tR 503 ?_ | refine tR 510 ?_))); first | ((with_reducible show WhileStep2 _ _ _ _ _ _ (Flow.ret _) _); dsimp only [WhileStep2]) | ((with_reducible show TurnP _ _ _ _ _ _ _ _ _ (Flow.ret _) _); dsimp only [TurnP]) | (k_unfold; (try dsimp only)) | (k_end; first | refine' next_q (by with_reducible assumption) ?_ | refine' ret_q (by with_reducible assumption) ?_ | refine' brk_q (by with_reducible assumption) ?_ | refine' cont_q (by with_reducible assumption) ?_) | (k_end; wrow_close) | walk1 | (dsimp only; walk1) | (leave1; walk_say "STEP leave1"; try dsimp only)) | fail "no step"))
    (rename Fr _ _ _ _ => F2)
    (rename News _ _ _ _ => N2)
    refine' hBo.use M P (T, row) (by k_asm) F2 (by k_asm) N2 sub0 (by k_asm) rfl ⟨_, _, rfl, hit, hkn, hvl, hrl⟩ (by ktr_room) (by ktr_units) ?_ ?_
    · rintro r P3 h3 tk3 F3 N3 hs3 hf3 hpost
      (repeat' (first | ((fail_if_success (with_reducible (first | refine tW ?_ | refine tI ?_ | refine tF ?_ | refine tC ?_ | refine tX ?_ | refine tR 405 ?_ | refine tR 426 ?_ | refine tR 433 ?_ | refine tR 314 ?_ | refine tR 321 ?_ | refine tR 377 ?_ | refine tR 370 ?_ | refine tR 286 ?_ | refine tR 384 ?_ | refine tR 391 ?_ | refine tR 45 ?_ | refine tR 475 ?_ | refine tR 482 ?_ | refine tR 489 ?_ | refine tR 496 ?_ | refine tR 503 ?_ | refine tR 510 ?_))); first | ((with_reducible show WhileStep2 _ _ _ _ _ _ (Flow.ret _) _); dsimp only [WhileStep2]) | ((with_reducible show TurnP _ _ _ _ _ _ _ _ _ (Flow.ret _) _); dsimp only [TurnP]) | (k_unfold; (try dsimp only)) | (k_end; first | refine' next_q (by with_reducible assumption) ?_ | refine' ret_q (by with_reducible assumption) ?_ | refine' brk_q (by with_reducible assumption) ?_ | refine' cont_q (by with_reducible assumption) ?_) | (k_end; wrow_close) | walk1 | (dsimp only; walk1) | (leave1; walk_say "STEP leave1"; try dsimp only)) | fail "no step"))
      exact hret _ _ _ _ (by assumption) (by assumption) hs3 hf3 hpost
    · intro e9 h9 G9 tk9 hF9 hR9 hU9 hz9
      ((show wpAny _ _ (leaving _ _) _ _ _); refine' leave_onSN ?Kq26 ?Fq26 ?Rq26 ?Uq26 ?_; (case Rq26 => assumption); (case Kq26 => assumption); (case Fq26 => assumption); (case Uq26 => assumption); intro zh5 zR5 _ zU5)
      exact hrz _ _ _ _ (by assumption) (by assumption) (by assumption) hz9)

end
section
-- ## what is told and what is due, compared
theorem kqd_up : ∀ (n m : Nat) (d : Dat), n ≤ m → kqdOk n d = true → kqdOk m d = true := by
  intro n
  induction n with
  | zero =>
    intro m d _ h
    cases d with
    | none => cases m <;> rfl
    | int i => cases m <;> rfl
    | str x => cases m <;> simpa [kqdOk] using h
    | bool b => simp [kqdOk] at h
    | bytes b => simp [kqdOk] at h
    | tuple ds => simp [kqdOk] at h
    | list ds => simp [kqdOk] at h
  | succ n ih =>
    intro m d hm h
    obtain ⟨m, rfl⟩ : ∃ k, m = k + 1 := ⟨m - 1, by omega⟩
    cases d with
    | none => rfl
    | int i => rfl
    | str x => simpa [kqdOk] using h
    | bool b => simp [kqdOk] at h
    | bytes b => simp [kqdOk] at h
    | tuple ds => simp only [kqdOk, List.all_eq_true] at h ⊢; exact fun d hd => ih m d (by omega) (h d hd)
    | list ds => simp only [kqdOk, List.all_eq_true] at h ⊢; exact fun d hd => ih m d (by omega) (h d hd)
theorem nm_ok : ∀ x : Nm, PyData.strOk x.str = true := by intro x; cases x <;> decide +kernel
theorem cv_ok (x : Nm) : PyData.strOk (if x = .col then Str.ofString "con" else Str.ofString "var") = true := by split <;> decide +kernel
theorem tr_ok : ∀ t : Tr, kqdOk (3 * t.size + 1) t.dat = true
  | .leaf i => by
    simp only [Tr.dat, Tr.size, kqdOk, List.all_cons, List.all_nil, Bool.and_true, Bool.and_eq_true]
    exact ⟨by decide +kernel, by decide +kernel⟩
  | .neg t => by
    have h := kqd_up _ (3 * (t.size + 1)) _ (by omega) (tr_ok t)
    simp only [Tr.dat, Tr.size, kqdOk, List.all_cons, List.all_nil, Bool.and_true, Bool.and_eq_true]
    exact ⟨by decide +kernel, h⟩
  | .bin x l r => by
    have h1 := kqd_up _ (3 * (l.size + r.size + 1) - 1) _ (by omega) (tr_ok l)
    have h2 := kqd_up _ (3 * (l.size + r.size + 1)) _ (by omega) (tr_ok r)
    obtain ⟨k, hk⟩ : ∃ k, 3 * (l.size + r.size + 1) = k + 3 := ⟨3 * (l.size + r.size), by omega⟩
    simp only [Tr.dat, Tr.size]
    rw [hk] at h1 h2 ⊢
    simp only [kqdOk, List.all_cons, List.all_nil, Bool.and_true, Bool.and_eq_true]
    exact ⟨by decide +kernel, ⟨by decide +kernel, ⟨cv_ok x, nm_ok x⟩, h1⟩, h2⟩
section
variable {prog : Program} {w : World} {A : Around} {E : Value → Shared → Prop} {s : Shared} {h₀ : Heap} {L : Addr}
theorem dat_ne {nw P P' : Led} {a b : Value} {t : Tr} {Q : Value → Shared → Prop} (N : News h₀ L s.heap nw) (ha : DatIn P a t.dat) (sa : ∀ p ∈ P, p ∈ nw) (hb : DatIn P' b t.dat) (sb : ∀ p ∈ P', p ∈ nw) (ht : t.size ≤ 11) (hu : A.units + 64 < cLine)
    (h : Q (.bool false) s) : wpAny (model prog w) A (compareOp .NotEq a b) Q E s := by
  have ok := kqd_up _ 40 _ (by omega) (tr_ok t)
  obtain ⟨as, ra⟩ := kqd_in N 40 (ha.mono sa) ok
  obtain ⟨bs, rb⟩ := kqd_in N 40 (hb.mono sb) ok
  have la := kqd_lay 40 _ ok
  have sh : PySem.SeqAt.shaped (kqdP t.dat) = true := by unfold PySem.SeqAt.shaped; rw [la.1, Bool.true_and]; exact decide_eq_true (Nat.le_trans la.2 (by decide))
  refine ne_dataH ra rb sh sh hu ?_
  rw [(kqd_eqv 40 _ _ 40 ok ok).mpr rfl]
  exact h
theorem dat_eq {nw P P' : Led} {a b : Value} {t : Tr} {Q : Value → Shared → Prop} (N : News h₀ L s.heap nw) (ha : DatIn P a t.dat) (sa : ∀ p ∈ P, p ∈ nw) (hb : DatIn P' b t.dat) (sb : ∀ p ∈ P', p ∈ nw) (ht : t.size ≤ 11) (hu : A.units + 64 < cLine)
    (h : Q (.bool true) s) : wpAny (model prog w) A (compareOp .Eq a b) Q E s := by
  have ok := kqd_up _ 40 _ (by omega) (tr_ok t)
  obtain ⟨as, ra⟩ := kqd_in N 40 (ha.mono sa) ok
  obtain ⟨bs, rb⟩ := kqd_in N 40 (hb.mono sb) ok
  have la := kqd_lay 40 _ ok
  have sh : PySem.SeqAt.shaped (kqdP t.dat) = true := by unfold PySem.SeqAt.shaped; rw [la.1, Bool.true_and]; exact decide_eq_true (Nat.le_trans la.2 (by decide))
  refine eq_dataH ra rb sh sh hu ?_
  rw [(kqd_eqv 40 _ _ 40 ok ok).mpr rfl]
  exact h
end
theorem yld_size : ∀ t : Tr, t.size ≤ (yld t).length
  | .leaf _ => by simp [Tr.size]
  | .neg t => by have := yld_size t; simp only [Tr.size, yld, List.length_cons]; omega
  | .bin x l r => by have := yld_size l; have := yld_size r; simp only [Tr.size, yld, List.length_append, List.length_cons]; omega

end
local macro_rules | `(tactic| walk_at "eval Name") => `(tactic| (k_here; k_dflt ((first | ((with_reducible show wpAny _ _ (eval (PySem.Expr.Name _ _) (compEnvC _ _ _ _)) _ _ _); refine' lcf_free ?N ?c ?m ?d ?_ ?a ?b) | ((with_reducible show wpAny _ _ (eval (PySem.Expr.Name _ _) (envOfC _ _ _ _ _)) _ _ _); refine' nameX_C ?N ?c ?m ?d ?_ ?a ?b) | (kc_free; refine' nameX_F ?N ?c ?m ?d ?_ ?a ?b)); (case a => rfl); (case b => rfl); (case N => k_asm); (case c => rfl); (case m => first | exact List.mem_append_right _ (by assumption) | k_mem | exact .tail _ (.tail _ (.tail _ (List.mem_append_right _ (by assumption))))); (case d => assumption); k_whole)))

section
-- ## _law_sections_right
noncomputable def SecS (w : World) : Prop :=
  ∀ (mean : ExcName → Option Value) (mg mb : Str → Option Value) (dp un : Nat) (gd : Option (List Code)) (cn : Str) (cs : Scope) (a : Addr) (ccd : Value) (cl : List (Str × Addr)) (outer : List Env) (A₀ : Around) (base h₀ : Heap) (L : Addr) (m : Str → Option Value) (M P : Led) (s : Shared)
    (T : Tb) (row : List It) (x : Nm) (rv kv tv : Value) (tx : Tok) (Q E : Value → Shared → Prop),
    Below A₀ base outer h₀ → Fr h₀ L s.heap m → (Mine.hd.heap_1 w.params).In h₀ → News h₀ L s.heap ((524, tabObj #[]) :: (M ++ P)) → (∀ p ∈ M ++ P, p.1 ≠ 524) → Top topProg LO2 mean mg mb h₀ → (Mine.hd.heap_1 w.params).In base → Top topProg LO2 mean mg mb base → CodeHd base 526 524 → KtsDicts (outer.filterMap (·.frame)) h₀ → cs.kind = .function →
    RowIn P rv row → KnIn w P kv T → TbIn PySem.Challenge.rw_np0230_01.row.prog w P tv T → vld row = true → row.length ≤ 11 → x ≠ .mi → dp + 250 < recursionLimit → un + 8 * 250 < cLine →
    (∀ h₀' P' h' tk' ps, KtsTurn (outer.filterMap (·.frame)) h₀ h₀' → Fr h₀' L h' m → News h₀' L h' ((524, tabObj ps) :: (M ++ P')) → (∀ p ∈ P, p ∈ P') → Q (.bool true) { s with heap := h', toks := tk' }) →
    wpAny (model PySem.Challenge.rw_np0230_01.row.prog w) (ktrTop dp un gd cn cs L a ccd cl outer) (call (.ref 527) [rv, kv, tv, .str x.str tx]) Q E s
theorem name_obj {g h : Heap} {L f : Addr} {fo : Obj} {rest : Led} (N : News g L h ((f, fo) :: rest)) : ∃ fo', fo = fo' ∧ News g L h ((f, fo') :: rest) := ⟨_, rfl, N⟩
theorem sr_sub {a b c1 c2 c3 c4 c5 t : Addr × Obj} {M P : Led} : ∀ p ∈ (t :: M) ++ (a :: b :: c1 :: c2 :: c3 :: c4 :: c5 :: P), p ∈ a :: b :: c1 :: c2 :: c3 :: c4 :: c5 :: t :: (M ++ P) := by
  intro p hp
  simp only [List.cons_append, List.mem_cons, List.mem_append] at hp ⊢
  rcases hp with h | h | h | h | h | h | h | h | h | h <;> simp [h]
theorem sr_off {M P2 P8 : Led} {f1 c1 L1 : Addr} {fo oc1 o6 o2 o3 o4 o5 ot : Obj} (h : ∀ p ∈ M ++ P2, p.1 ≠ 524) (l : @LT.lt Nat instLTNat 524 L1) (lc : 524 < c1) (lf : c1 < f1)
    (hf : ∀ p ∈ P8, p ∈ (f1, fo) :: (c1, oc1) :: (L1 + 1 + 1 + 1 + 1 + 1, o6) :: (L1 + 1 + 1 + 1 + 1, o2) :: (L1 + 1 + 1 + 1, o3) :: (L1 + 1 + 1, o4) :: (L1 + 1, o5) :: P2 ∨ ∀ q ∈ ((524, ot) :: M) ++ ((f1, fo) :: (c1, oc1) :: (L1 + 1 + 1 + 1 + 1 + 1, o6) :: (L1 + 1 + 1 + 1 + 1, o2) :: (L1 + 1 + 1 + 1, o3) :: (L1 + 1 + 1, o4) :: (L1 + 1, o5) :: P2), q.1 ≠ p.1) : ∀ p ∈ M ++ P8, p.1 ≠ 524 := by
  intro p hp
  rcases List.mem_append.mp hp with hp | hp
  · exact h p (List.mem_append_left _ hp)
  · rcases hf p hp with q | q
    · simp only [List.mem_cons] at q
      have lc' : @LT.lt Nat instLTNat 524 c1 := lc
      have lf' : @LT.lt Nat instLTNat c1 f1 := lf
      rcases q with rfl | rfl | rfl | rfl | rfl | rfl | rfl | q
      · exact Nat.ne_of_gt (Nat.lt_trans lc' lf')
      · exact Nat.ne_of_gt lc'
      · exact Nat.ne_of_gt (by omega)
      · exact Nat.ne_of_gt (by omega)
      · exact Nat.ne_of_gt (by omega)
      · exact Nat.ne_of_gt (by omega)
      · exact Nat.ne_of_gt (by omega)
      · exact h p (List.mem_append_right _ q)
    · exact Ne.symm (q (524, ot) (.head _))
theorem cells5 {cm : Str → Option Value} {n1 n2 n3 n4 n5 : Str} {c1 c2 c3 c4 c5 : Addr} {cells : Led} (x : CellsAre cm [(n1, c1), (n2, c2), (n3, c3), (n4, c4), (n5, c5)] cells) :
    ∃ o1 o2 o3 o4 o5, cells = [(c1, o1), (c2, o2), (c3, o3), (c4, o4), (c5, o5)] ∧ o1.data = .cell (cm n1) ∧ o2.data = .cell (cm n2) ∧ o3.data = .cell (cm n3) ∧ o4.data = .cell (cm n4) ∧ o5.data = .cell (cm n5) := by
  cases x with | cons h r => obtain ⟨o2, o3, o4, o5, rfl, h2, h3, h4, h5⟩ := r.four; exact ⟨_, o2, o3, o4, o5, rfl, h, h2, h3, h4, h5⟩
theorem trs_take {P : Led} {ys : List Value} {v : Value} {t : Tr} {ts : List Tr} {i : Nat} {f : Tr → Bool} (h : TrsAre P ys ((ts.take i).filter f)) (ht : ts[i]? = some t) (hv : TrIn P v t) (hf : f t = true) : TrsAre P (ys ++ [v]) ((ts.take (i + 1)).filter f) := by
  rw [List.take_add_one, ht, List.filter_append]
  show TrsAre P (ys ++ [v]) (_ ++ List.filter f [t])
  rw [List.filter_cons_of_pos hf]
  exact h.snoc hv
theorem trs_drop {P : Led} {ys : List Value} {t : Tr} {ts : List Tr} {i : Nat} {f : Tr → Bool} (h : TrsAre P ys ((ts.take i).filter f)) (ht : ts[i]? = some t) (hf : f t = false) : TrsAre P ys ((ts.take (i + 1)).filter f) := by
  rw [List.take_add_one, ht, List.filter_append]
  show TrsAre P ys (_ ++ List.filter f [t])
  rw [List.filter_cons_of_neg (by rw [hf]; exact Bool.false_ne_true), List.filter_nil, List.append_nil]
  exact h
theorem off1_all {D : Addr} : ∀ {l : Led}, LCg.Off1 D l → ∀ p ∈ l, p.1 ≠ D
  | [], _, _, hp => by cases hp
  | q :: l, h, p, hp => by
    rcases List.mem_cons.mp hp with rfl | hp
    · exact h.1
    · exact off1_all h.2 p hp
theorem off_grow {M P P' : Led} {ot : Obj} (h : ∀ p ∈ M ++ P, p.1 ≠ 524) (g : Gr (((524, ot) :: M) ++ P) P P') : ∀ p ∈ M ++ P', p.1 ≠ 524 := by
  intro p hp
  rcases List.mem_append.mp hp with hp | hp
  · exact h p (List.mem_append_left _ hp)
  · rcases g.fr p hp with q | q
    · exact h p (List.mem_append_right _ q)
    · exact Ne.symm (q (524, ot) (.head _))
theorem off_two {M P P' : Led} {f c : Addr} {fo oc ot : Obj} (h : ∀ p ∈ M ++ P, p.1 ≠ 524) (lc : 524 < c) (lf : c < f) (hf : ∀ p ∈ P', p ∈ (f, fo) :: (c, oc) :: P ∨ ∀ q ∈ ((524, ot) :: M) ++ ((f, fo) :: (c, oc) :: P), q.1 ≠ p.1) : ∀ p ∈ M ++ P', p.1 ≠ 524 := by
  intro p hp
  rcases List.mem_append.mp hp with hp | hp
  · exact h p (List.mem_append_left _ hp)
  · rcases hf p hp with q | q
    · rcases List.mem_cons.mp q with rfl | q
      · exact Nat.ne_of_gt (Nat.lt_trans lc lf)
      · rcases List.mem_cons.mp q with rfl | q
        · exact Nat.ne_of_gt lc
        · exact h p (List.mem_append_right _ q)
    · exact Ne.symm (q (524, ot) (.head _))
theorem sub_two {a b t : Addr × Obj} {M P : Led} : ∀ p ∈ (t :: M) ++ (a :: b :: P), p ∈ a :: b :: t :: (M ++ P) := by
  intro p hp
  simp only [List.cons_append, List.mem_cons, List.mem_append] at hp ⊢
  rcases hp with h | h | h | h | h <;> simp [h]
theorem dat_ref {P : Led} {v : Value} {t : Tr} (h : DatIn P v t.dat) : ∃ a, v = .ref a := by
  cases t with
  | leaf i => simp only [Tr.dat] at h; cases h; exact ⟨_, rfl⟩
  | neg t => simp only [Tr.dat] at h; cases h; exact ⟨_, rfl⟩
  | bin x l r => simp only [Tr.dat] at h; cases h; exact ⟨_, rfl⟩
theorem RowIn.mono {P P' : Led} {v : Value} {l : List It} (h : RowIn P v l) (hs : ∀ p ∈ P, p ∈ P') : RowIn P' v l := by
  obtain ⟨a, vs, n, e, hm, hi⟩ := h
  exact ⟨a, vs, n, e, hs _ hm, hi⟩
theorem sec_spec (w : World) (hOp : NewOpS w) (hIt : LawItemsS w) (hBl : BoundLeftS w) (hBr : BoundRightS w) (hTr : ∀ n, TreesS w n) (hBe : BesideS w) (hSi : SignedS w) (hNo : ∀ t, LawNodeS w t) : SecS w := by
  unfold SecS
  k_fill
  rintro mean mg mb dp un gd cn cs a ccd cl outer A₀ base h₀ L m M P s T row x rv kv tv tx Q E B F X N off TT XB TB CB DD hk hrow hkn htb hvl hrl hx hd hu hret
  refine el3 (id hrow) ?_
  rintro ra rvs rn ⟨rfl, hra, hris⟩
  refine el3 (id hkn) ?_
  rintro dk ok kvs ⟨rfl, hdk, -⟩
  refine el3 (id htb) ?_
  rintro dt ot tvs ⟨rfl, hdt, -⟩
  refine wpAny_call ?_
  k_dflt (refine' code_defTC ?k1 ?k2 ?k3 ?k4 ?k5 XB TB DD ?kA ?kF ?kK ?k6 ?k7 ?k8 ?k9 ?kB ?kD ?_ ?c2 ?c3 ?c4; (case kA => exact rfl); (case kF => exact rfl); (case kK => assumption); (case k1 => k_asm); (case k2 => k_asm); (case k3 => k_asm); (case k4 => k_asm); (case k5 => k_asm); (case k6 => k_is); (case k7 => k_is); (case k8 => ktr_room); (case k9 => exact BindsTo.of_eq rfl); (case kB => exact rfl); (case kD => decide +kernel); (case c2 => exact rfl); (case c3 => exact rfl); (case c4 => exact rfl); k_whole; intro g1 L1 h1 tk1 cells FG1 F1 N1 Y1 B1 X1 T1 D1 l1; (try dsimp only); (try k_fold))
  w_strict (
    walk_at "norm"
    refine el5 (cells5 Y1) ?_
    rintro o1 o2 o3 o4 o5 ⟨hcs, d1, d2, d3, d4, d5⟩
    subst hcs
    clear Y1
    replace d1 : o1.data = .cell none := d1
    replace d2 : o2.data = .cell (some (.str x.str tx)) := d2
    replace d3 : o3.data = .cell (some (.ref dt)) := d3
    replace d4 : o4.data = .cell (some (.ref dk)) := d4
    replace d5 : o5.data = .cell (some (.ref ra)) := d5
    replace F1 : Fr g1 L1 h1 (fun _ => none) := F1
    (simp only [List.cons_append, List.nil_append] at N1)
    (repeat' (first | ((fail_if_success (with_reducible (first | refine tW ?_ | refine tI ?_ | refine tF ?_ | refine tC ?_ | refine tX ?_ | refine tR 208 ?_ | refine tR 522 ?_ | refine tR 515 ?_ | refine tR 412 ?_ | refine tR 419 ?_ | show wpAny _ _ (eval (PySem.Expr.ListComp _ _ _ _) _) _ _ _ | show wpAny _ _ (exec (PySem.Stmt.Assign _ (PySem.Expr.ListComp _ _ _ _) _) _) _ _ _ | show wpAny _ _ (exec (PySem.Stmt.If _ _ _ _) _) _ _ _ | show wpAny _ _ (compareOp PySem.CmpOp.NotEq _ _) _ _ _ | show wpAny _ _ (eval (PySem.Expr.Lambda _ _ _ _) _) _ _ _ | show wpAny _ _ (compareOp PySem.CmpOp.Eq (Value.ref _) (Value.ref _)) _ _ _ | refine tR 426 ?_ | refine tR 433 ?_ | refine tR 314 ?_ | refine tR 321 ?_ | refine tR 377 ?_ | refine tR 370 ?_ | refine tR 286 ?_ | refine tR 384 ?_ | refine tR 391 ?_ | refine tR 45 ?_ | refine tR 475 ?_ | refine tR 482 ?_ | refine tR 489 ?_ | refine tR 496 ?_ | refine tR 503 ?_ | refine tR 510 ?_))); first | ((with_reducible show WhileStep2 _ _ _ _ _ _ (Flow.ret _) _); dsimp only [WhileStep2]) | ((with_reducible show TurnP _ _ _ _ _ _ _ _ _ (Flow.ret _) _); dsimp only [TurnP]) | (k_unfold; (try dsimp only)) | (k_end; first | refine' next_q (by with_reducible assumption) ?_ | refine' ret_q (by with_reducible assumption) ?_ | refine' brk_q (by with_reducible assumption) ?_ | refine' cont_q (by with_reducible assumption) ?_) | (k_end; wrow_close) | walk1 | (dsimp only; walk1) | (leave1; walk_say "STEP leave1"; try dsimp only)) | fail "no step"))
    refine' hOp.use ((_, o1) :: (_, o2) :: (_, o3) :: (_, o4) :: (_, o5) :: (524, tabObj #[]) :: M) P x (by k_asm) F1 (by k_asm) N1 (fun p hp => hp) (by k_asm) rfl ⟨_, rfl⟩ (by ktr_room) (by ktr_units) ?_
    rintro r P2 h2 tk2 F2 N2 hs2 hf2 hop
    have offop : ∀ p ∈ ((L1 + 1 + 1 + 1 + 1, o2) :: (L1 + 1 + 1 + 1, o3) :: (L1 + 1 + 1, o4) :: (L1 + 1, o5) :: (524, tabObj #[]) :: M) ++ P2, p.1 ≠ L1 + 1 + 1 + 1 + 1 + 1 :=
      offs_fresh (Px := P) (off_cons (Nat.ne_of_lt (by omega)) (off_cons (Nat.ne_of_lt (by omega)) (off_cons (Nat.ne_of_lt (by omega)) (off_cons (Nat.ne_of_lt (by omega)) fun p hp => Nat.ne_of_lt (Nat.lt_of_lt_of_le (l1 p hp) (by omega)))))) hf2 (.head _)
    clear N1 F1
    (repeat' (first | ((fail_if_success (with_reducible (first | refine tW ?_ | refine tI ?_ | refine tF ?_ | refine tC ?_ | refine tX ?_ | refine tR 208 ?_ | refine tR 522 ?_ | refine tR 515 ?_ | refine tR 412 ?_ | refine tR 419 ?_ | show wpAny _ _ (eval (PySem.Expr.ListComp _ _ _ _) _) _ _ _ | show wpAny _ _ (exec (PySem.Stmt.Assign _ (PySem.Expr.ListComp _ _ _ _) _) _) _ _ _ | show wpAny _ _ (exec (PySem.Stmt.If _ _ _ _) _) _ _ _ | show wpAny _ _ (compareOp PySem.CmpOp.NotEq _ _) _ _ _ | show wpAny _ _ (eval (PySem.Expr.Lambda _ _ _ _) _) _ _ _ | show wpAny _ _ (compareOp PySem.CmpOp.Eq (Value.ref _) (Value.ref _)) _ _ _ | refine tR 426 ?_ | refine tR 433 ?_ | refine tR 314 ?_ | refine tR 321 ?_ | refine tR 377 ?_ | refine tR 370 ?_ | refine tR 286 ?_ | refine tR 384 ?_ | refine tR 391 ?_ | refine tR 45 ?_ | refine tR 475 ?_ | refine tR 482 ?_ | refine tR 489 ?_ | refine tR 496 ?_ | refine tR 503 ?_ | refine tR 510 ?_))); first | ((with_reducible show WhileStep2 _ _ _ _ _ _ (Flow.ret _) _); dsimp only [WhileStep2]) | ((with_reducible show TurnP _ _ _ _ _ _ _ _ _ (Flow.ret _) _); dsimp only [TurnP]) | (k_unfold; (try dsimp only)) | (k_end; first | refine' next_q (by with_reducible assumption) ?_ | refine' ret_q (by with_reducible assumption) ?_ | refine' brk_q (by with_reducible assumption) ?_ | refine' cont_q (by with_reducible assumption) ?_) | (k_end; wrow_close) | walk1 | (dsimp only; walk1) | (leave1; walk_say "STEP leave1"; try dsimp only)) | fail "no step"))
    (rename Fr _ _ _ _ => F3)
    (rename News _ _ _ _ => N3)
    (rename (Obj.data _ = Data.cell (some r)) => d6)
    rename_i o6

    have N4 : News g1 L1 _ ((L1 + 1 + 1 + 1 + 1 + 1, o6) :: (L1 + 1 + 1 + 1 + 1, o2) :: (L1 + 1 + 1 + 1, o3) :: (L1 + 1 + 1, o4) :: (L1 + 1, o5) :: (524, tabObj #[]) :: (M ++ P2)) := N3
    have off2 : ∀ p ∈ M ++ P2, p.1 ≠ 524 := offs_fresh off hf2 (.tail _ (.tail _ (.tail _ (.tail _ (.tail _ (.head _))))))
    have l524 : @LT.lt Nat instLTNat 524 L1 := l1 _ (.head _)
    clear N3
    refine' kla_eval ?d0 ?_
    (case d0 => exact rfl)
    refine' kla_nest (ps := #[]) F3 N4 T1 ?C rfl (.tail (Nat.ne_of_gt (by omega)) (.tail (Nat.ne_of_gt (by omega)) (.tail (Nat.ne_of_gt (by omega)) (.tail (Nat.ne_of_gt (by omega)) (.tail (Nat.ne_of_gt (by omega)) (.head off2)))))) ?t ?n ?cl (fun f1 c1 oc1 vs1 t1 ct1 h5 tk5 F5 N5 e1 e2 lc1 lf1 => ?_)
    (case C => exact CB.keeps B1.stays)
    (case t => kn_triples)
    (case n => kn_among)
    (case cl => exact rfl)
    (dsimp only at N5)
    clear N4 F3
    (repeat' (first | ((fail_if_success (with_reducible (first | refine tW ?_ | refine tI ?_ | refine tF ?_ | refine tC ?_ | refine tX ?_ | refine tR 208 ?_ | refine tR 522 ?_ | refine tR 515 ?_ | refine tR 412 ?_ | refine tR 419 ?_ | show wpAny _ _ (eval (PySem.Expr.ListComp _ _ _ _) _) _ _ _ | show wpAny _ _ (exec (PySem.Stmt.Assign _ (PySem.Expr.ListComp _ _ _ _) _) _) _ _ _ | show wpAny _ _ (exec (PySem.Stmt.If _ _ _ _) _) _ _ _ | show wpAny _ _ (compareOp PySem.CmpOp.NotEq _ _) _ _ _ | show wpAny _ _ (eval (PySem.Expr.Lambda _ _ _ _) _) _ _ _ | show wpAny _ _ (compareOp PySem.CmpOp.Eq (Value.ref _) (Value.ref _)) _ _ _ | refine tR 426 ?_ | refine tR 433 ?_ | refine tR 314 ?_ | refine tR 321 ?_ | refine tR 377 ?_ | refine tR 370 ?_ | refine tR 286 ?_ | refine tR 384 ?_ | refine tR 391 ?_ | refine tR 45 ?_ | refine tR 475 ?_ | refine tR 482 ?_ | refine tR 489 ?_ | refine tR 496 ?_ | refine tR 503 ?_ | refine tR 510 ?_))); first | ((with_reducible show WhileStep2 _ _ _ _ _ _ (Flow.ret _) _); dsimp only [WhileStep2]) | ((with_reducible show TurnP _ _ _ _ _ _ _ _ _ (Flow.ret _) _); dsimp only [TurnP]) | (k_unfold; (try dsimp only)) | (k_end; first | refine' next_q (by with_reducible assumption) ?_ | refine' ret_q (by with_reducible assumption) ?_ | refine' brk_q (by with_reducible assumption) ?_ | refine' cont_q (by with_reducible assumption) ?_) | (k_end; wrow_close) | walk1 | (dsimp only; walk1) | (leave1; walk_say "STEP leave1"; try dsimp only)) | fail "no step"))
    obtain ⟨fo, hfo, N6⟩ := name_obj N5
    clear N5
    have hdeed : RSpec w f1 (D := Unit) (fun _ => 110) (fun P vs _ => vs = [] ∧ ((f1, fo) ∈ P ∧ (c1, oc1) ∈ P ∧ (L1 + 1 + 1 + 1 + 1 + 1, o6) ∈ P ∧ (L1 + 1 + 1, o4) ∈ P ∧ (L1 + 1, o5) ∈ P ∧ RowIn P (.ref ra) row ∧ KnIn w P (.ref dk) T ∧ OpIn P r x)) (fun P r _ => ∃ t, leftF T row x = some t ∧ NodeIn P r t.nt ∧ t.size ≤ 11) (fun _ => leftF T row x = none) := by
      clear hret N6 F5 F FG1 B B1 N D1 DD off off2 offop l1 lc1 X X1 TT T1 XB TB CB htb hdt hdk hra hris hrow hkn hu hd
      unfold RSpec
      rintro mean2 mg2 mb2 dp2 un2 gd2 cn2 cs2 a2 ccd2 cl2 outer2 A2 base2 hb2 Lq mq Mq Pq sq vsq ⟨⟩ Qq Eq Bq Fq Xq Nq TTq hkq hDD1 hd hu hret hrz
      walk_at "norm"
      obtain ⟨rfl, hf, hc, hc6, hc4, hc5, hrow, hkn, hop2⟩ := hDD1
      subst hfo
      refine wpAny_call ?_
      refine' kla_code Bq Fq Xq Nq TTq ?kA ?kF ?kK (List.mem_append_right _ hf) (codeRec_news Nq (List.mem_append_right _ hc) e1 e2) ?k8 ?k9 ?kB ?_ ?c2 ?c3 ?c4 ?c5
      (case kA => exact rfl)
      (case kF => exact rfl)
      (case kK => assumption)
      (case k8 => ktr_room)
      (case k9 => exact rfl)
      (case c5 => decide)
      (case kB => exact locs rfl)
      (case c2 => exact rfl)
      (case c3 => exact rfl)
      (case c4 => exact rfl)
      intro g3 L3 h3 FG3 F3 N3 B3 X3 T3
      (try dsimp only)
      (try k_fold)
      (repeat' (first | ((fail_if_success (with_reducible (first | refine tW ?_ | refine tI ?_ | refine tF ?_ | refine tC ?_ | refine tX ?_ | refine tR 208 ?_ | refine tR 522 ?_ | refine tR 515 ?_ | refine tR 412 ?_ | refine tR 419 ?_ | show wpAny _ _ (eval (PySem.Expr.ListComp _ _ _ _) _) _ _ _ | show wpAny _ _ (exec (PySem.Stmt.Assign _ (PySem.Expr.ListComp _ _ _ _) _) _) _ _ _ | show wpAny _ _ (exec (PySem.Stmt.If _ _ _ _) _) _ _ _ | show wpAny _ _ (compareOp PySem.CmpOp.NotEq _ _) _ _ _ | show wpAny _ _ (eval (PySem.Expr.Lambda _ _ _ _) _) _ _ _ | show wpAny _ _ (compareOp PySem.CmpOp.Eq (Value.ref _) (Value.ref _)) _ _ _ | refine tR 426 ?_ | refine tR 433 ?_ | refine tR 314 ?_ | refine tR 321 ?_ | refine tR 377 ?_ | refine tR 370 ?_ | refine tR 286 ?_ | refine tR 384 ?_ | refine tR 391 ?_ | refine tR 45 ?_ | refine tR 475 ?_ | refine tR 482 ?_ | refine tR 489 ?_ | refine tR 496 ?_ | refine tR 503 ?_ | refine tR 510 ?_))); first | ((with_reducible show WhileStep2 _ _ _ _ _ _ (Flow.ret _) _); dsimp only [WhileStep2]) | ((with_reducible show TurnP _ _ _ _ _ _ _ _ _ (Flow.ret _) _); dsimp only [TurnP]) | (k_unfold; (try dsimp only)) | (k_end; first | refine' next_q (by with_reducible assumption) ?_ | refine' ret_q (by with_reducible assumption) ?_ | refine' brk_q (by with_reducible assumption) ?_ | refine' cont_q (by with_reducible assumption) ?_) | (k_end; wrow_close) | walk1 | (dsimp only; walk1) | (leave1; walk_say "STEP leave1"; try dsimp only)) | fail "no step"))
      (rename Fr _ _ _ _ => F4)
      (rename News _ _ _ _ => N4)
      refine' hIt.use Mq Pq row (by k_asm) F4 (by k_asm) N4 sub0 (by k_asm) rfl ⟨_, rfl, hrow, hrl⟩ (by ktr_room) (by ktr_units) ?_
      rintro r7 P7 h7 tk7 F7 N7 hs7 hf7 hits
      have hc6' := hs7 _ hc6
      have hc4' := hs7 _ hc4
      have hc5' := hs7 _ hc5
      clear F4 N4
      (repeat' (first | ((fail_if_success (with_reducible (first | refine tW ?_ | refine tI ?_ | refine tF ?_ | refine tC ?_ | refine tX ?_ | refine tR 208 ?_ | refine tR 522 ?_ | refine tR 515 ?_ | refine tR 412 ?_ | refine tR 419 ?_ | show wpAny _ _ (eval (PySem.Expr.ListComp _ _ _ _) _) _ _ _ | show wpAny _ _ (exec (PySem.Stmt.Assign _ (PySem.Expr.ListComp _ _ _ _) _) _) _ _ _ | show wpAny _ _ (exec (PySem.Stmt.If _ _ _ _) _) _ _ _ | show wpAny _ _ (compareOp PySem.CmpOp.NotEq _ _) _ _ _ | show wpAny _ _ (eval (PySem.Expr.Lambda _ _ _ _) _) _ _ _ | show wpAny _ _ (compareOp PySem.CmpOp.Eq (Value.ref _) (Value.ref _)) _ _ _ | refine tR 426 ?_ | refine tR 433 ?_ | refine tR 314 ?_ | refine tR 321 ?_ | refine tR 377 ?_ | refine tR 370 ?_ | refine tR 286 ?_ | refine tR 384 ?_ | refine tR 391 ?_ | refine tR 45 ?_ | refine tR 475 ?_ | refine tR 482 ?_ | refine tR 489 ?_ | refine tR 496 ?_ | refine tR 503 ?_ | refine tR 510 ?_))); first | ((with_reducible show WhileStep2 _ _ _ _ _ _ (Flow.ret _) _); dsimp only [WhileStep2]) | ((with_reducible show TurnP _ _ _ _ _ _ _ _ _ (Flow.ret _) _); dsimp only [TurnP]) | (k_unfold; (try dsimp only)) | (k_end; first | refine' next_q (by with_reducible assumption) ?_ | refine' ret_q (by with_reducible assumption) ?_ | refine' brk_q (by with_reducible assumption) ?_ | refine' cont_q (by with_reducible assumption) ?_) | (k_end; wrow_close) | walk1 | (dsimp only; walk1) | (leave1; walk_say "STEP leave1"; try dsimp only)) | fail "no step"))
      (rename Fr _ _ _ _ => F8)
      (rename News _ _ _ _ => N8)
      refine' hBl.use Mq P7 (T, row, x) (by k_asm) F8 (by k_asm) N8 sub0 (by k_asm) rfl ⟨_, _, _, rfl, hits, hkn.mono hs7, hop2.mono hs7, hx, hvl, hrl⟩ (by ktr_room) (by ktr_units) ?_ ?_
      · rintro r9 P9 h9 tk9 F9 N9 hs9 hf9 hDD1
        walk_at "norm"
        obtain ⟨t, hrun, hn⟩ := hDD1
        (repeat' (first | ((fail_if_success (with_reducible (first | refine tW ?_ | refine tI ?_ | refine tF ?_ | refine tC ?_ | refine tX ?_ | refine tR 208 ?_ | refine tR 522 ?_ | refine tR 515 ?_ | refine tR 412 ?_ | refine tR 419 ?_ | show wpAny _ _ (eval (PySem.Expr.ListComp _ _ _ _) _) _ _ _ | show wpAny _ _ (exec (PySem.Stmt.Assign _ (PySem.Expr.ListComp _ _ _ _) _) _) _ _ _ | show wpAny _ _ (exec (PySem.Stmt.If _ _ _ _) _) _ _ _ | show wpAny _ _ (compareOp PySem.CmpOp.NotEq _ _) _ _ _ | show wpAny _ _ (eval (PySem.Expr.Lambda _ _ _ _) _) _ _ _ | show wpAny _ _ (compareOp PySem.CmpOp.Eq (Value.ref _) (Value.ref _)) _ _ _ | refine tR 426 ?_ | refine tR 433 ?_ | refine tR 314 ?_ | refine tR 321 ?_ | refine tR 377 ?_ | refine tR 370 ?_ | refine tR 286 ?_ | refine tR 384 ?_ | refine tR 391 ?_ | refine tR 45 ?_ | refine tR 475 ?_ | refine tR 482 ?_ | refine tR 489 ?_ | refine tR 496 ?_ | refine tR 503 ?_ | refine tR 510 ?_))); first | ((with_reducible show WhileStep2 _ _ _ _ _ _ (Flow.ret _) _); dsimp only [WhileStep2]) | ((with_reducible show TurnP _ _ _ _ _ _ _ _ _ (Flow.ret _) _); dsimp only [TurnP]) | (k_unfold; (try dsimp only)) | (k_end; first | refine' next_q (by with_reducible assumption) ?_ | refine' ret_q (by with_reducible assumption) ?_ | refine' brk_q (by with_reducible assumption) ?_ | refine' cont_q (by with_reducible assumption) ?_) | (k_end; wrow_close) | walk1 | (dsimp only; walk1) | (leave1; walk_say "STEP leave1"; try dsimp only)) | fail "no step"))
        exact hret _ P9 _ _ (by assumption) (by assumption) (fun p hp => hs9 p (hs7 p hp)) (Gr.refl.call hs7 hf7 |>.call hs9 hf9).fr ⟨t, hrun, hn, by have := yld_size t; rw [(left_s hvl hrun).2.1] at this; omega⟩
      · intro e9 h9 G9 tk9 hF9 hR9 hU9 hz9
        refine' leave_onT ?K rfl ?F hR9 hU9 ?_
        (case K => assumption)
        (case F => assumption)
        intro h11 R11 U11
        exact hrz _ _ _ _ (by assumption) (RaisedSN.less (by assumption) (fun p hp => (List.mem_append.mp hp).elim (fun hp => List.mem_append_left _ hp) (fun hp => List.mem_append_right _ (hs7 _ hp)))) (by assumption) hz9
    have htold := told_spec w f1 hdeed (fun P d h => by subst hfo; exact ⟨_, _, _, _, h.1⟩)
    clear hdeed hfo
    refine' TSpec.use htold ((524, tabObj (#[] ++ #[rawInt 284, rawInt 21, Value.ref c1])) :: M) ((f1, fo) :: (c1, oc1) :: (L1 + 1 + 1 + 1 + 1 + 1, o6) :: (L1 + 1 + 1 + 1 + 1, o2) :: (L1 + 1 + 1 + 1, o3) :: (L1 + 1 + 1, o4) :: (L1 + 1, o5) :: P2) () B1 F5 X1 N6 ?sub T1 XB TB D1 rfl ⟨rfl, .head _, .tail _ (.head _), .tail _ (.tail _ (.head _)), .tail _ (.tail _ (.tail _ (.tail _ (.tail _ (.head _))))), .tail _ (.tail _ (.tail _ (.tail _ (.tail _ (.tail _ (.head _)))))), hrow.mono ?s1, hkn.mono ?s1, hop.mono ?s2⟩ (by ktr_room) (by ktr_units) ?_
    (case sub => exact sr_sub)
    (case s1 => exact fun p hp => .tail _ (.tail _ (.tail _ (.tail _ (.tail _ (.tail _ (.tail _ (hs2 p hp))))))))
    (case s2 => exact fun p hp => .tail _ (.tail _ (.tail _ (.tail _ (.tail _ (.tail _ (.tail _ hp)))))))
    rintro g2 r8 P8 h8 tk8 KT2 B2 X2 T2 D2 F8 N8 hs8 hf8 hpost
    have off8 := sr_off off2 l524 (lc1 _ (.tail _ (.tail _ (.tail _ (.tail _ (.tail _ (.head _))))))) lf1 hf8
    have hsP : ∀ p ∈ P, p ∈ P8 := fun p hp => hs8 _ (.tail _ (.tail _ (.tail _ (.tail _ (.tail _ (.tail _ (.tail _ (hs2 p hp))))))))
    have k6 := hs8 _ (.tail _ (.tail _ (.head _)))
    have k2 := hs8 _ (.tail _ (.tail _ (.tail _ (.head _))))
    have k3 := hs8 _ (.tail _ (.tail _ (.tail _ (.tail _ (.head _)))))
    have k4 := hs8 _ (.tail _ (.tail _ (.tail _ (.tail _ (.tail _ (.head _))))))
    have k5 := hs8 _ (.tail _ (.tail _ (.tail _ (.tail _ (.tail _ (.tail _ (.head _)))))))
    have hop8 := hop.mono (fun p hp => hs8 p (.tail _ (.tail _ (.tail _ (.tail _ (.tail _ (.tail _ (.tail _ hp))))))))
    clear hs8 hf8 hs2 hf2 N6 F5 htold e1 e2 lc1 lf1 off2 offop hop
    dsimp only at hpost
    obtain ⟨MM, hMM⟩ : ∃ MM, (524, tabObj (#[] ++ #[rawInt 284, rawInt 21, Value.ref c1])) :: M = MM := ⟨_, rfl⟩
    rw [hMM] at N8
    (repeat' (first | ((fail_if_success (with_reducible (first | refine tW ?_ | refine tI ?_ | refine tF ?_ | refine tC ?_ | refine tX ?_ | refine tR 208 ?_ | refine tR 522 ?_ | refine tR 515 ?_ | refine tR 412 ?_ | refine tR 419 ?_ | show wpAny _ _ (eval (PySem.Expr.ListComp _ _ _ _) _) _ _ _ | show wpAny _ _ (exec (PySem.Stmt.Assign _ (PySem.Expr.ListComp _ _ _ _) _) _) _ _ _ | show wpAny _ _ (exec (PySem.Stmt.If _ _ _ _) _) _ _ _ | show wpAny _ _ (compareOp PySem.CmpOp.NotEq _ _) _ _ _ | show wpAny _ _ (eval (PySem.Expr.Lambda _ _ _ _) _) _ _ _ | show wpAny _ _ (compareOp PySem.CmpOp.Eq (Value.ref _) (Value.ref _)) _ _ _ | refine tR 426 ?_ | refine tR 433 ?_ | refine tR 314 ?_ | refine tR 321 ?_ | refine tR 377 ?_ | refine tR 370 ?_ | refine tR 286 ?_ | refine tR 384 ?_ | refine tR 391 ?_ | refine tR 45 ?_ | refine tR 475 ?_ | refine tR 482 ?_ | refine tR 489 ?_ | refine tR 496 ?_ | refine tR 503 ?_ | refine tR 510 ?_))); first | ((with_reducible show WhileStep2 _ _ _ _ _ _ (Flow.ret _) _); dsimp only [WhileStep2]) | ((with_reducible show TurnP _ _ _ _ _ _ _ _ _ (Flow.ret _) _); dsimp only [TurnP]) | (k_unfold; (try dsimp only)) | (k_end; first | refine' next_q (by with_reducible assumption) ?_ | refine' ret_q (by with_reducible assumption) ?_ | refine' brk_q (by with_reducible assumption) ?_ | refine' cont_q (by with_reducible assumption) ?_) | (k_end; wrow_close) | walk1 | (dsimp only; walk1) | (leave1; walk_say "STEP leave1"; try dsimp only)) | fail "no step"))
    (rename Fr _ _ _ _ => F9)
    refine LCt.Assign_ListComp_T (F₀ := F9) (by rfl) (by with_unfolding_all rfl) (by with_unfolding_all rfl) (by decide) (by rfl) (by decide) (by rfl) (by rfl) (by rfl) ?_
    (repeat' (first | ((fail_if_success (with_reducible (first | refine tW ?_ | refine tI ?_ | refine tF ?_ | refine tC ?_ | refine tX ?_ | refine tR 208 ?_ | refine tR 522 ?_ | refine tR 515 ?_ | refine tR 412 ?_ | refine tR 419 ?_ | show wpAny _ _ (eval (PySem.Expr.ListComp _ _ _ _) _) _ _ _ | show wpAny _ _ (exec (PySem.Stmt.Assign _ (PySem.Expr.ListComp _ _ _ _) _) _) _ _ _ | show wpAny _ _ (exec (PySem.Stmt.If _ _ _ _) _) _ _ _ | show wpAny _ _ (compareOp PySem.CmpOp.NotEq _ _) _ _ _ | show wpAny _ _ (eval (PySem.Expr.Lambda _ _ _ _) _) _ _ _ | show wpAny _ _ (compareOp PySem.CmpOp.Eq (Value.ref _) (Value.ref _)) _ _ _ | refine tR 426 ?_ | refine tR 433 ?_ | refine tR 314 ?_ | refine tR 321 ?_ | refine tR 377 ?_ | refine tR 370 ?_ | refine tR 286 ?_ | refine tR 384 ?_ | refine tR 391 ?_ | refine tR 45 ?_ | refine tR 475 ?_ | refine tR 482 ?_ | refine tR 489 ?_ | refine tR 496 ?_ | refine tR 503 ?_ | refine tR 510 ?_))); first | ((with_reducible show WhileStep2 _ _ _ _ _ _ (Flow.ret _) _); dsimp only [WhileStep2]) | ((with_reducible show TurnP _ _ _ _ _ _ _ _ _ (Flow.ret _) _); dsimp only [TurnP]) | (k_unfold; (try dsimp only)) | (k_end; first | refine' next_q (by with_reducible assumption) ?_ | refine' ret_q (by with_reducible assumption) ?_ | refine' brk_q (by with_reducible assumption) ?_ | refine' cont_q (by with_reducible assumption) ?_) | (k_end; wrow_close) | walk1 | (dsimp only; walk1) | (leave1; walk_say "STEP leave1"; try dsimp only)) | fail "no step"))
    (rename Fr _ _ _ _ => F10)
    (rename News _ _ _ _ => N10)
    refine' (hTr 11).use MM P8 (T, row) B2 F10 X2 N10 sub0 T2 rfl ⟨_, _, rfl, htb.mono hsP, hrow.mono hsP, hvl, hrl, Nat.le_refl _⟩ (by ktr_room) (by ktr_units) ?_
    rintro r10 P10 h10 tk10 F11 N11 hs10 hf10 hDD1
    walk_at "norm"
    refine el3 hDD1 ?_
    clear hDD1
    rintro la tvs tn ⟨rfl, hla, htrs⟩
    refine LCt.CompSrcT.ledger rfl F11 N11 (List.mem_append_right _ hla) (by rw [List.size_toArray, htrs.length, sizeLine_eq]; exact Nat.le_trans (trees_room hrl) (by decide)) fun g => ?_
    rw [List.size_toArray]
    refine comp_restT (fun i ys Pi => Gr (MM ++ P10) P10 Pi ∧ TrsAre Pi ys (((treesN T 11 row).take i).filter fun t => besideV T x t false)) ?_ ⟨.refl, by simp; exact .nil⟩ ?_
    · rintro i ys Pi v I oI C oC D m₂ h tk E' hi ⟨hg, hys⟩ hv hC hx2 F3 N3 off
      have hv' : tvs[i]? = some v := by simpa using hv
      obtain ⟨t, htt, hti⟩ := htrs.at hv'
      have hti' := hti.mono hg.sub
      have k2p := hg.sub _ (hs10 _ k2)
      have k3p := hg.sub _ (hs10 _ k3)
      have htb3 := htb.mono fun p hp => hg.sub p (hs10 p (hsP p hp))
      have hsz : t.size ≤ 100 := by have := treesN_size T 11 row t (List.mem_of_getElem? htt); omega
      (repeat' (first | ((fail_if_success (with_reducible (first | refine tW ?_ | refine tI ?_ | refine tF ?_ | refine tC ?_ | refine tX ?_ | refine tR 208 ?_ | refine tR 522 ?_ | refine tR 515 ?_ | refine tR 412 ?_ | refine tR 419 ?_ | show wpAny _ _ (eval (PySem.Expr.ListComp _ _ _ _) _) _ _ _ | show wpAny _ _ (exec (PySem.Stmt.Assign _ (PySem.Expr.ListComp _ _ _ _) _) _) _ _ _ | show wpAny _ _ (exec (PySem.Stmt.If _ _ _ _) _) _ _ _ | show wpAny _ _ (compareOp PySem.CmpOp.NotEq _ _) _ _ _ | show wpAny _ _ (eval (PySem.Expr.Lambda _ _ _ _) _) _ _ _ | show wpAny _ _ (compareOp PySem.CmpOp.Eq (Value.ref _) (Value.ref _)) _ _ _ | refine tR 426 ?_ | refine tR 433 ?_ | refine tR 314 ?_ | refine tR 321 ?_ | refine tR 377 ?_ | refine tR 370 ?_ | refine tR 286 ?_ | refine tR 384 ?_ | refine tR 391 ?_ | refine tR 45 ?_ | refine tR 475 ?_ | refine tR 482 ?_ | refine tR 489 ?_ | refine tR 496 ?_ | refine tR 503 ?_ | refine tR 510 ?_))); first | ((with_reducible show WhileStep2 _ _ _ _ _ _ (Flow.ret _) _); dsimp only [WhileStep2]) | ((with_reducible show TurnP _ _ _ _ _ _ _ _ _ (Flow.ret _) _); dsimp only [TurnP]) | (k_unfold; (try dsimp only)) | (k_end; first | refine' next_q (by with_reducible assumption) ?_ | refine' ret_q (by with_reducible assumption) ?_ | refine' brk_q (by with_reducible assumption) ?_ | refine' cont_q (by with_reducible assumption) ?_) | (k_end; wrow_close) | walk1 | (dsimp only; walk1) | (leave1; walk_say "STEP leave1"; try dsimp only)) | fail "no step"))
      (rename Fr _ _ _ _ => F12)
      (rename News _ _ _ _ => N12)
      refine' hBe.use ((I, oI) :: (C, oC) :: (D, LCg.lst ys) :: MM) Pi (T, x, t, false) B2 F12 X2 N12 (fun p hp => hp) T2 rfl ⟨_, _, _, _, rfl, htb3, hti', hsz⟩ (by ktr_room) (by ktr_units) ?_
      rintro r12 P12 h12 tk12 F13 N13 hs12 hf12 hb12
      dsimp only at hb12
      have hla12 := hs12 _ (hg.sub _ hla)
      cases hb : besideV T x t false with
      | false =>
        rw [hb] at hb12
        subst hb12
        (repeat' (first | ((fail_if_success (with_reducible (first | refine tW ?_ | refine tI ?_ | refine tF ?_ | refine tC ?_ | refine tX ?_ | refine tR 208 ?_ | refine tR 522 ?_ | refine tR 515 ?_ | refine tR 412 ?_ | refine tR 419 ?_ | show wpAny _ _ (eval (PySem.Expr.ListComp _ _ _ _) _) _ _ _ | show wpAny _ _ (exec (PySem.Stmt.Assign _ (PySem.Expr.ListComp _ _ _ _) _) _) _ _ _ | show wpAny _ _ (exec (PySem.Stmt.If _ _ _ _) _) _ _ _ | show wpAny _ _ (compareOp PySem.CmpOp.NotEq _ _) _ _ _ | show wpAny _ _ (eval (PySem.Expr.Lambda _ _ _ _) _) _ _ _ | show wpAny _ _ (compareOp PySem.CmpOp.Eq (Value.ref _) (Value.ref _)) _ _ _ | refine tR 426 ?_ | refine tR 433 ?_ | refine tR 314 ?_ | refine tR 321 ?_ | refine tR 377 ?_ | refine tR 370 ?_ | refine tR 286 ?_ | refine tR 384 ?_ | refine tR 391 ?_ | refine tR 45 ?_ | refine tR 475 ?_ | refine tR 482 ?_ | refine tR 489 ?_ | refine tR 496 ?_ | refine tR 503 ?_ | refine tR 510 ?_))); first | ((with_reducible show WhileStep2 _ _ _ _ _ _ (Flow.ret _) _); dsimp only [WhileStep2]) | ((with_reducible show TurnP _ _ _ _ _ _ _ _ _ (Flow.ret _) _); dsimp only [TurnP]) | (k_unfold; (try dsimp only)) | (k_end; first | refine' next_q (by with_reducible assumption) ?_ | refine' ret_q (by with_reducible assumption) ?_ | refine' brk_q (by with_reducible assumption) ?_ | refine' cont_q (by with_reducible assumption) ?_) | (k_end; wrow_close) | walk1 | (dsimp only; walk1) | (leave1; walk_say "STEP leave1"; try dsimp only)) | fail "no step"))
        exact ⟨_, _, MM ++ P12, rfl, by assumption, by assumption, off3_fresh off hf12, .inr ⟨_, List.mem_append_right _ hla12, rfl, _, rfl⟩, P12, rfl, hg.call hs12 (fr_drop3 hf12), trs_drop (hys.mono hs12) htt hb⟩
      | true =>
        rw [hb] at hb12
        subst hb12
        (repeat' (first | ((fail_if_success (with_reducible (first | refine tW ?_ | refine tI ?_ | refine tF ?_ | refine tC ?_ | refine tX ?_ | refine tR 208 ?_ | refine tR 522 ?_ | refine tR 515 ?_ | refine tR 412 ?_ | refine tR 419 ?_ | show wpAny _ _ (eval (PySem.Expr.ListComp _ _ _ _) _) _ _ _ | show wpAny _ _ (exec (PySem.Stmt.Assign _ (PySem.Expr.ListComp _ _ _ _) _) _) _ _ _ | show wpAny _ _ (exec (PySem.Stmt.If _ _ _ _) _) _ _ _ | show wpAny _ _ (compareOp PySem.CmpOp.NotEq _ _) _ _ _ | show wpAny _ _ (eval (PySem.Expr.Lambda _ _ _ _) _) _ _ _ | show wpAny _ _ (compareOp PySem.CmpOp.Eq (Value.ref _) (Value.ref _)) _ _ _ | refine tR 426 ?_ | refine tR 433 ?_ | refine tR 314 ?_ | refine tR 321 ?_ | refine tR 377 ?_ | refine tR 370 ?_ | refine tR 286 ?_ | refine tR 384 ?_ | refine tR 391 ?_ | refine tR 45 ?_ | refine tR 475 ?_ | refine tR 482 ?_ | refine tR 489 ?_ | refine tR 496 ?_ | refine tR 503 ?_ | refine tR 510 ?_))); first | ((with_reducible show WhileStep2 _ _ _ _ _ _ (Flow.ret _) _); dsimp only [WhileStep2]) | ((with_reducible show TurnP _ _ _ _ _ _ _ _ _ (Flow.ret _) _); dsimp only [TurnP]) | (k_unfold; (try dsimp only)) | (k_end; first | refine' next_q (by with_reducible assumption) ?_ | refine' ret_q (by with_reducible assumption) ?_ | refine' brk_q (by with_reducible assumption) ?_ | refine' cont_q (by with_reducible assumption) ?_) | (k_end; wrow_close) | walk1 | (dsimp only; walk1) | (leave1; walk_say "STEP leave1"; try dsimp only)) | fail "no step"))
        exact ⟨_, _, MM ++ P12, rfl, by assumption, by assumption, off3_fresh off hf12, .inr ⟨_, List.mem_append_right _ hla12, rfl, _, rfl⟩, P12, rfl, hg.call hs12 (fr_drop3 hf12), trs_take (hys.mono hs12) htt (hti'.mono hs12) hb⟩
    · rintro ys Pi ⟨hg, hys⟩
      rintro D h tk F3 N3 off1
      rw [htrs.length, List.take_length] at hys
      dsimp only at hys
      rw [law_left hvl hrl] at hys
      (repeat' (first | ((fail_if_success (with_reducible (first | refine tW ?_ | refine tI ?_ | refine tF ?_ | refine tC ?_ | refine tX ?_ | refine tR 208 ?_ | refine tR 522 ?_ | refine tR 515 ?_ | refine tR 412 ?_ | refine tR 419 ?_ | show wpAny _ _ (eval (PySem.Expr.ListComp _ _ _ _) _) _ _ _ | show wpAny _ _ (exec (PySem.Stmt.Assign _ (PySem.Expr.ListComp _ _ _ _) _) _) _ _ _ | show wpAny _ _ (exec (PySem.Stmt.If _ _ _ _) _) _ _ _ | show wpAny _ _ (compareOp PySem.CmpOp.NotEq _ _) _ _ _ | show wpAny _ _ (eval (PySem.Expr.Lambda _ _ _ _) _) _ _ _ | show wpAny _ _ (compareOp PySem.CmpOp.Eq (Value.ref _) (Value.ref _)) _ _ _ | refine tR 426 ?_ | refine tR 433 ?_ | refine tR 314 ?_ | refine tR 321 ?_ | refine tR 377 ?_ | refine tR 370 ?_ | refine tR 286 ?_ | refine tR 384 ?_ | refine tR 391 ?_ | refine tR 45 ?_ | refine tR 475 ?_ | refine tR 482 ?_ | refine tR 489 ?_ | refine tR 496 ?_ | refine tR 503 ?_ | refine tR 510 ?_))); first | ((with_reducible show WhileStep2 _ _ _ _ _ _ (Flow.ret _) _); dsimp only [WhileStep2]) | ((with_reducible show TurnP _ _ _ _ _ _ _ _ _ (Flow.ret _) _); dsimp only [TurnP]) | (k_unfold; (try dsimp only)) | (k_end; first | refine' next_q (by with_reducible assumption) ?_ | refine' ret_q (by with_reducible assumption) ?_ | refine' brk_q (by with_reducible assumption) ?_ | refine' cont_q (by with_reducible assumption) ?_) | (k_end; wrow_close) | walk1 | (dsimp only; walk1) | (leave1; walk_say "STEP leave1"; try dsimp only)) | fail "no step"))
      (dsimp only at F3)
      have offD := off1_all off1
      clear F10 N10 F11 N11
      refine cut_at (fun s' => ∃ h' tk' P', s' = { s with heap := h', toks := tk' } ∧ Fr g2 L1 h' (fun z => if z = Str.ofString "due" then some (.ref D) else if z = Str.ofString "told" then some r8 else none) ∧ News g2 L1 h' (MM ++ P') ∧ Gr (MM ++ P10) P10 P') ?_ ?_
      · walk1
        cases hl : leftF T row x with
        | none =>
          rw [hl] at hys hpost
          cases hys
          obtain rfl : r8 = Value.none := hpost
          (repeat' (first | ((fail_if_success (with_reducible (first | refine tW ?_ | refine tI ?_ | refine tF ?_ | refine tC ?_ | refine tX ?_ | refine tR 208 ?_ | refine tR 522 ?_ | refine tR 515 ?_ | refine tR 412 ?_ | refine tR 419 ?_ | show wpAny _ _ (eval (PySem.Expr.ListComp _ _ _ _) _) _ _ _ | show wpAny _ _ (exec (PySem.Stmt.Assign _ (PySem.Expr.ListComp _ _ _ _) _) _) _ _ _ | show wpAny _ _ (exec (PySem.Stmt.If _ _ _ _) _) _ _ _ | show wpAny _ _ (compareOp PySem.CmpOp.NotEq _ _) _ _ _ | show wpAny _ _ (eval (PySem.Expr.Lambda _ _ _ _) _) _ _ _ | show wpAny _ _ (compareOp PySem.CmpOp.Eq (Value.ref _) (Value.ref _)) _ _ _ | refine tR 426 ?_ | refine tR 433 ?_ | refine tR 314 ?_ | refine tR 321 ?_ | refine tR 377 ?_ | refine tR 370 ?_ | refine tR 286 ?_ | refine tR 384 ?_ | refine tR 391 ?_ | refine tR 45 ?_ | refine tR 475 ?_ | refine tR 482 ?_ | refine tR 489 ?_ | refine tR 496 ?_ | refine tR 503 ?_ | refine tR 510 ?_))); first | ((with_reducible show WhileStep2 _ _ _ _ _ _ (Flow.ret _) _); dsimp only [WhileStep2]) | ((with_reducible show TurnP _ _ _ _ _ _ _ _ _ (Flow.ret _) _); dsimp only [TurnP]) | (k_unfold; (try dsimp only)) | (k_end; first | refine' next_q (by with_reducible assumption) ?_ | refine' ret_q (by with_reducible assumption) ?_ | refine' brk_q (by with_reducible assumption) ?_ | refine' cont_q (by with_reducible assumption) ?_) | (k_end; wrow_close) | walk1 | (dsimp only; walk1) | (leave1; walk_say "STEP leave1"; try dsimp only)) | fail "no step"))
          walk1
          (repeat' (first | ((fail_if_success (with_reducible (first | refine tW ?_ | refine tI ?_ | refine tF ?_ | refine tC ?_ | refine tX ?_ | refine tR 208 ?_ | refine tR 522 ?_ | refine tR 515 ?_ | refine tR 412 ?_ | refine tR 419 ?_ | show wpAny _ _ (eval (PySem.Expr.ListComp _ _ _ _) _) _ _ _ | show wpAny _ _ (exec (PySem.Stmt.Assign _ (PySem.Expr.ListComp _ _ _ _) _) _) _ _ _ | show wpAny _ _ (exec (PySem.Stmt.If _ _ _ _) _) _ _ _ | show wpAny _ _ (compareOp PySem.CmpOp.NotEq _ _) _ _ _ | show wpAny _ _ (eval (PySem.Expr.Lambda _ _ _ _) _) _ _ _ | show wpAny _ _ (compareOp PySem.CmpOp.Eq (Value.ref _) (Value.ref _)) _ _ _ | refine tR 426 ?_ | refine tR 433 ?_ | refine tR 314 ?_ | refine tR 321 ?_ | refine tR 377 ?_ | refine tR 370 ?_ | refine tR 286 ?_ | refine tR 384 ?_ | refine tR 391 ?_ | refine tR 45 ?_ | refine tR 475 ?_ | refine tR 482 ?_ | refine tR 489 ?_ | refine tR 496 ?_ | refine tR 503 ?_ | refine tR 510 ?_))); first | ((with_reducible show WhileStep2 _ _ _ _ _ _ (Flow.ret _) _); dsimp only [WhileStep2]) | ((with_reducible show TurnP _ _ _ _ _ _ _ _ _ (Flow.ret _) _); dsimp only [TurnP]) | (k_unfold; (try dsimp only)) | (k_end; first | refine' next_q (by with_reducible assumption) ?_ | refine' ret_q (by with_reducible assumption) ?_ | refine' brk_q (by with_reducible assumption) ?_ | refine' cont_q (by with_reducible assumption) ?_) | (k_end; wrow_close) | walk1 | (dsimp only; walk1) | (leave1; walk_say "STEP leave1"; try dsimp only)) | fail "no step"))
          walk1
          (repeat' (first | ((fail_if_success (with_reducible (first | refine tW ?_ | refine tI ?_ | refine tF ?_ | refine tC ?_ | refine tX ?_ | refine tR 208 ?_ | refine tR 522 ?_ | refine tR 515 ?_ | refine tR 412 ?_ | refine tR 419 ?_ | show wpAny _ _ (eval (PySem.Expr.ListComp _ _ _ _) _) _ _ _ | show wpAny _ _ (exec (PySem.Stmt.Assign _ (PySem.Expr.ListComp _ _ _ _) _) _) _ _ _ | show wpAny _ _ (exec (PySem.Stmt.If _ _ _ _) _) _ _ _ | show wpAny _ _ (compareOp PySem.CmpOp.NotEq _ _) _ _ _ | show wpAny _ _ (eval (PySem.Expr.Lambda _ _ _ _) _) _ _ _ | show wpAny _ _ (compareOp PySem.CmpOp.Eq (Value.ref _) (Value.ref _)) _ _ _ | refine tR 426 ?_ | refine tR 433 ?_ | refine tR 314 ?_ | refine tR 321 ?_ | refine tR 377 ?_ | refine tR 370 ?_ | refine tR 286 ?_ | refine tR 384 ?_ | refine tR 391 ?_ | refine tR 45 ?_ | refine tR 475 ?_ | refine tR 482 ?_ | refine tR 489 ?_ | refine tR 496 ?_ | refine tR 503 ?_ | refine tR 510 ?_))); first | ((with_reducible show WhileStep2 _ _ _ _ _ _ (Flow.ret _) _); dsimp only [WhileStep2]) | ((with_reducible show TurnP _ _ _ _ _ _ _ _ _ (Flow.ret _) _); dsimp only [TurnP]) | (k_unfold; (try dsimp only)) | (k_end; first | refine' next_q (by with_reducible assumption) ?_ | refine' ret_q (by with_reducible assumption) ?_ | refine' brk_q (by with_reducible assumption) ?_ | refine' cont_q (by with_reducible assumption) ?_) | (k_end; wrow_close) | walk1 | (dsimp only; walk1) | (leave1; walk_say "STEP leave1"; try dsimp only)) | fail "no step"))
          exact ⟨rfl, _, _, Pi, rfl, by assumption, nsub (by assumption) (fun p hp => .tail _ (.tail _ hp)), hg⟩
        | some t =>
          rw [hl] at hys hpost
          have hpost : DatIn P8 r8 t.dat := hpost
          have hys : TrsAre Pi ys [t] := hys
          cases hys with
          | @cons v _ vs _ htv hnil =>
          cases hnil
          (repeat' (first | ((fail_if_success (with_reducible (first | refine tW ?_ | refine tI ?_ | refine tF ?_ | refine tC ?_ | refine tX ?_ | refine tR 208 ?_ | refine tR 522 ?_ | refine tR 515 ?_ | refine tR 412 ?_ | refine tR 419 ?_ | show wpAny _ _ (eval (PySem.Expr.ListComp _ _ _ _) _) _ _ _ | show wpAny _ _ (exec (PySem.Stmt.Assign _ (PySem.Expr.ListComp _ _ _ _) _) _) _ _ _ | show wpAny _ _ (exec (PySem.Stmt.If _ _ _ _) _) _ _ _ | show wpAny _ _ (compareOp PySem.CmpOp.NotEq _ _) _ _ _ | show wpAny _ _ (eval (PySem.Expr.Lambda _ _ _ _) _) _ _ _ | show wpAny _ _ (compareOp PySem.CmpOp.Eq (Value.ref _) (Value.ref _)) _ _ _ | refine tR 426 ?_ | refine tR 433 ?_ | refine tR 314 ?_ | refine tR 321 ?_ | refine tR 377 ?_ | refine tR 370 ?_ | refine tR 286 ?_ | refine tR 384 ?_ | refine tR 391 ?_ | refine tR 45 ?_ | refine tR 475 ?_ | refine tR 482 ?_ | refine tR 489 ?_ | refine tR 496 ?_ | refine tR 503 ?_ | refine tR 510 ?_))); first | ((with_reducible show WhileStep2 _ _ _ _ _ _ (Flow.ret _) _); dsimp only [WhileStep2]) | ((with_reducible show TurnP _ _ _ _ _ _ _ _ _ (Flow.ret _) _); dsimp only [TurnP]) | (k_unfold; (try dsimp only)) | (k_end; first | refine' next_q (by with_reducible assumption) ?_ | refine' ret_q (by with_reducible assumption) ?_ | refine' brk_q (by with_reducible assumption) ?_ | refine' cont_q (by with_reducible assumption) ?_) | (k_end; wrow_close) | walk1 | (dsimp only; walk1) | (leave1; walk_say "STEP leave1"; try dsimp only)) | fail "no step"))
          refine ne_snoc (xs := []) (v := v) (News.isList (by assumption) (.tail _ (.head _))) (News.isList (by assumption) (.head _)) (by ktr_units) ?_
          have hsz : t.size ≤ 11 := by have := yld_size t; rw [(left_s hvl hl).2.1] at this; omega
          (repeat' (first | ((fail_if_success (with_reducible (first | refine tW ?_ | refine tI ?_ | refine tF ?_ | refine tC ?_ | refine tX ?_ | refine tR 208 ?_ | refine tR 522 ?_ | refine tR 515 ?_ | refine tR 412 ?_ | refine tR 419 ?_ | show wpAny _ _ (eval (PySem.Expr.ListComp _ _ _ _) _) _ _ _ | show wpAny _ _ (exec (PySem.Stmt.Assign _ (PySem.Expr.ListComp _ _ _ _) _) _) _ _ _ | show wpAny _ _ (exec (PySem.Stmt.If _ _ _ _) _) _ _ _ | show wpAny _ _ (compareOp PySem.CmpOp.NotEq _ _) _ _ _ | show wpAny _ _ (eval (PySem.Expr.Lambda _ _ _ _) _) _ _ _ | show wpAny _ _ (compareOp PySem.CmpOp.Eq (Value.ref _) (Value.ref _)) _ _ _ | refine tR 426 ?_ | refine tR 433 ?_ | refine tR 314 ?_ | refine tR 321 ?_ | refine tR 377 ?_ | refine tR 370 ?_ | refine tR 286 ?_ | refine tR 384 ?_ | refine tR 391 ?_ | refine tR 45 ?_ | refine tR 475 ?_ | refine tR 482 ?_ | refine tR 489 ?_ | refine tR 496 ?_ | refine tR 503 ?_ | refine tR 510 ?_))); first | ((with_reducible show WhileStep2 _ _ _ _ _ _ (Flow.ret _) _); dsimp only [WhileStep2]) | ((with_reducible show TurnP _ _ _ _ _ _ _ _ _ (Flow.ret _) _); dsimp only [TurnP]) | (k_unfold; (try dsimp only)) | (k_end; first | refine' next_q (by with_reducible assumption) ?_ | refine' ret_q (by with_reducible assumption) ?_ | refine' brk_q (by with_reducible assumption) ?_ | refine' cont_q (by with_reducible assumption) ?_) | (k_end; wrow_close) | walk1 | (dsimp only; walk1) | (leave1; walk_say "STEP leave1"; try dsimp only)) | fail "no step"))
          (rename Fr _ _ _ _ => F12)
          (rename News _ _ _ _ => N12)
          refine' (hNo t).use ((_, _) :: (D, LCg.lst [v]) :: MM) Pi () B2 F12 X2 N12 (fun p hp => hp) T2 rfl ⟨_, rfl, htv⟩ (by ktr_room) (by ktr_units) ?_
          rintro r14 P14 h14 tk14 F14 N14 hs14 hf14 hdat
          dsimp only
          refine dat_ne N14 hpost (fun p hp => List.mem_append_right _ (hs14 _ (hg.sub _ (hs10 _ hp)))) hdat (fun p hp => List.mem_append_right _ hp) hsz (by ktr_units) ?_
          (repeat' (first | ((fail_if_success (with_reducible (first | refine tW ?_ | refine tI ?_ | refine tF ?_ | refine tC ?_ | refine tX ?_ | refine tR 208 ?_ | refine tR 522 ?_ | refine tR 515 ?_ | refine tR 412 ?_ | refine tR 419 ?_ | show wpAny _ _ (eval (PySem.Expr.ListComp _ _ _ _) _) _ _ _ | show wpAny _ _ (exec (PySem.Stmt.Assign _ (PySem.Expr.ListComp _ _ _ _) _) _) _ _ _ | show wpAny _ _ (exec (PySem.Stmt.If _ _ _ _) _) _ _ _ | show wpAny _ _ (compareOp PySem.CmpOp.NotEq _ _) _ _ _ | show wpAny _ _ (eval (PySem.Expr.Lambda _ _ _ _) _) _ _ _ | show wpAny _ _ (compareOp PySem.CmpOp.Eq (Value.ref _) (Value.ref _)) _ _ _ | refine tR 426 ?_ | refine tR 433 ?_ | refine tR 314 ?_ | refine tR 321 ?_ | refine tR 377 ?_ | refine tR 370 ?_ | refine tR 286 ?_ | refine tR 384 ?_ | refine tR 391 ?_ | refine tR 45 ?_ | refine tR 475 ?_ | refine tR 482 ?_ | refine tR 489 ?_ | refine tR 496 ?_ | refine tR 503 ?_ | refine tR 510 ?_))); first | ((with_reducible show WhileStep2 _ _ _ _ _ _ (Flow.ret _) _); dsimp only [WhileStep2]) | ((with_reducible show TurnP _ _ _ _ _ _ _ _ _ (Flow.ret _) _); dsimp only [TurnP]) | (k_unfold; (try dsimp only)) | (k_end; first | refine' next_q (by with_reducible assumption) ?_ | refine' ret_q (by with_reducible assumption) ?_ | refine' brk_q (by with_reducible assumption) ?_ | refine' cont_q (by with_reducible assumption) ?_) | (k_end; wrow_close) | walk1 | (dsimp only; walk1) | (leave1; walk_say "STEP leave1"; try dsimp only)) | fail "no step"))
          exact ⟨rfl, _, _, P14, rfl, by assumption, nsub (by assumption) (fun p hp => .tail _ (.tail _ hp)), hg.call hs14 fun p hp => (hf14 p hp).imp id fun q r hr => q r (.tail _ (.tail _ hr))⟩
      · rintro s' hDD1
        walk_at "norm"
        refine el3 hDD1 ?_
        clear hDD1
        rintro h15 tk15 P15 ⟨rfl, F15, N15, hg15⟩
        subst hMM
        have off15 := off_grow (off_grow off8 ⟨hs10, hf10⟩) hg15
        have hsP15 : ∀ p ∈ P, p ∈ P15 := fun p hp => hg15.sub p (hs10 p (hsP p hp))
        have k6' := hg15.sub _ (hs10 _ k6)
        have k2' := hg15.sub _ (hs10 _ k2)
        have k3' := hg15.sub _ (hs10 _ k3)
        have k4' := hg15.sub _ (hs10 _ k4)
        have k5' := hg15.sub _ (hs10 _ k5)
        have hop15 := hop8.mono fun p hp => hg15.sub p (hs10 p hp)
        clear hys hg off1 offD htrs hla hs10 hf10 hpost off8 hsP k6 k2 k3 k4 k5 hop8 hg15 N3 F3
        (repeat' (first | ((fail_if_success (with_reducible (first | refine tW ?_ | refine tI ?_ | refine tF ?_ | refine tC ?_ | refine tX ?_ | refine tR 208 ?_ | refine tR 522 ?_ | refine tR 515 ?_ | refine tR 412 ?_ | refine tR 419 ?_ | show wpAny _ _ (eval (PySem.Expr.ListComp _ _ _ _) _) _ _ _ | show wpAny _ _ (exec (PySem.Stmt.Assign _ (PySem.Expr.ListComp _ _ _ _) _) _) _ _ _ | show wpAny _ _ (exec (PySem.Stmt.If _ _ _ _) _) _ _ _ | show wpAny _ _ (compareOp PySem.CmpOp.NotEq _ _) _ _ _ | show wpAny _ _ (eval (PySem.Expr.Lambda _ _ _ _) _) _ _ _ | show wpAny _ _ (compareOp PySem.CmpOp.Eq (Value.ref _) (Value.ref _)) _ _ _ | refine tR 426 ?_ | refine tR 433 ?_ | refine tR 314 ?_ | refine tR 321 ?_ | refine tR 377 ?_ | refine tR 370 ?_ | refine tR 286 ?_ | refine tR 384 ?_ | refine tR 391 ?_ | refine tR 45 ?_ | refine tR 475 ?_ | refine tR 482 ?_ | refine tR 489 ?_ | refine tR 496 ?_ | refine tR 503 ?_ | refine tR 510 ?_))); first | ((with_reducible show WhileStep2 _ _ _ _ _ _ (Flow.ret _) _); dsimp only [WhileStep2]) | ((with_reducible show TurnP _ _ _ _ _ _ _ _ _ (Flow.ret _) _); dsimp only [TurnP]) | (k_unfold; (try dsimp only)) | (k_end; first | refine' next_q (by with_reducible assumption) ?_ | refine' ret_q (by with_reducible assumption) ?_ | refine' brk_q (by with_reducible assumption) ?_ | refine' cont_q (by with_reducible assumption) ?_) | (k_end; wrow_close) | walk1 | (dsimp only; walk1) | (leave1; walk_say "STEP leave1"; try dsimp only)) | fail "no step"))
        (rename Fr _ _ _ _ => F15)
        (rename News _ _ _ _ => N15)
        have N16 : News g2 L1 _ ((524, tabObj (#[] ++ #[rawInt 284, rawInt 21, Value.ref c1])) :: (M ++ P15)) := N15
        clear N15
        refine' kla_eval ?d0 ?_
        (case d0 => exact rfl)
        refine' kla_nest (ps := #[] ++ #[rawInt 284, rawInt 21, Value.ref c1]) F15 N16 T2 ?C rfl (.head off15) ?t ?n ?cl (fun f2 c2 oc2 vs2 t2 ct2 h17 tk17 F17 N17 e1 e2 lc2 lf2 => ?_)
        (case C => exact CB.keeps B2.stays)
        (case t => kn_triples)
        (case n => kn_among)
        (case cl => exact rfl)
        (dsimp only at N17)
        clear N16 F15
        obtain ⟨fo2, hfo2, N18⟩ := name_obj N17
        clear N17
        (repeat' (first | ((fail_if_success (with_reducible (first | refine tW ?_ | refine tI ?_ | refine tF ?_ | refine tC ?_ | refine tX ?_ | refine tR 208 ?_ | refine tR 522 ?_ | refine tR 515 ?_ | refine tR 412 ?_ | refine tR 419 ?_ | show wpAny _ _ (eval (PySem.Expr.ListComp _ _ _ _) _) _ _ _ | show wpAny _ _ (exec (PySem.Stmt.Assign _ (PySem.Expr.ListComp _ _ _ _) _) _) _ _ _ | show wpAny _ _ (exec (PySem.Stmt.If _ _ _ _) _) _ _ _ | show wpAny _ _ (compareOp PySem.CmpOp.NotEq _ _) _ _ _ | show wpAny _ _ (eval (PySem.Expr.Lambda _ _ _ _) _) _ _ _ | show wpAny _ _ (compareOp PySem.CmpOp.Eq (Value.ref _) (Value.ref _)) _ _ _ | refine tR 426 ?_ | refine tR 433 ?_ | refine tR 314 ?_ | refine tR 321 ?_ | refine tR 377 ?_ | refine tR 370 ?_ | refine tR 286 ?_ | refine tR 384 ?_ | refine tR 391 ?_ | refine tR 45 ?_ | refine tR 475 ?_ | refine tR 482 ?_ | refine tR 489 ?_ | refine tR 496 ?_ | refine tR 503 ?_ | refine tR 510 ?_))); first | ((with_reducible show WhileStep2 _ _ _ _ _ _ (Flow.ret _) _); dsimp only [WhileStep2]) | ((with_reducible show TurnP _ _ _ _ _ _ _ _ _ (Flow.ret _) _); dsimp only [TurnP]) | (k_unfold; (try dsimp only)) | (k_end; first | refine' next_q (by with_reducible assumption) ?_ | refine' ret_q (by with_reducible assumption) ?_ | refine' brk_q (by with_reducible assumption) ?_ | refine' cont_q (by with_reducible assumption) ?_) | (k_end; wrow_close) | walk1 | (dsimp only; walk1) | (leave1; walk_say "STEP leave1"; try dsimp only)) | fail "no step"))
        have hdeed2 : RSpec w f2 (D := Unit) (fun _ => 110) (fun P vs _ => vs = [] ∧ ((f2, fo2) ∈ P ∧ (c2, oc2) ∈ P ∧ (L1 + 1 + 1 + 1 + 1 + 1, o6) ∈ P ∧ (L1 + 1 + 1, o4) ∈ P ∧ (L1 + 1, o5) ∈ P ∧ RowIn P (.ref ra) row ∧ KnIn w P (.ref dk) T ∧ OpIn P r x)) (fun P r _ => ∃ t, boundF T row [.opn x] = some t ∧ NodeIn P r t.nt ∧ t.size ≤ 11) (fun _ => boundF T row [.opn x] = none) := by
          clear hret N18 F17 F FG1 B B1 N D1 DD off off15 l1 lc2 X X1 TT T1 XB TB CB htb hdt hdk hra hris hrow hkn hu hd B2 X2 T2 D2 KT2
          unfold RSpec
          rintro mean2 mg2 mb2 dp2 un2 gd2 cn2 cs2 a2 ccd2 cl2 outer2 A2 base2 hb2 Lq mq Mq Pq sq vsq ⟨⟩ Qq Eq Bq Fq Xq Nq TTq hkq hDD1 hd hu hret hrz
          walk_at "norm"
          obtain ⟨rfl, hf, hc, hc6, hc4, hc5, hrow, hkn, hop2⟩ := hDD1
          subst hfo2
          refine wpAny_call ?_
          refine' kla_code Bq Fq Xq Nq TTq ?kA ?kF ?kK (List.mem_append_right _ hf) (codeRec_news Nq (List.mem_append_right _ hc) e1 e2) ?k8 ?k9 ?kB ?_ ?c2 ?c3 ?c4 ?c5
          (case kA => exact rfl)
          (case kF => exact rfl)
          (case kK => assumption)
          (case k8 => ktr_room)
          (case k9 => exact rfl)
          (case c5 => decide)
          (case kB => exact locs rfl)
          (case c2 => exact rfl)
          (case c3 => exact rfl)
          (case c4 => exact rfl)
          intro g3 L3 h3 FG3 F3 N3 B3 X3 T3
          (try dsimp only)
          (try k_fold)
          (repeat' (first | ((fail_if_success (with_reducible (first | refine tW ?_ | refine tI ?_ | refine tF ?_ | refine tC ?_ | refine tX ?_ | refine tR 208 ?_ | refine tR 522 ?_ | refine tR 515 ?_ | refine tR 412 ?_ | refine tR 419 ?_ | show wpAny _ _ (eval (PySem.Expr.ListComp _ _ _ _) _) _ _ _ | show wpAny _ _ (exec (PySem.Stmt.Assign _ (PySem.Expr.ListComp _ _ _ _) _) _) _ _ _ | show wpAny _ _ (exec (PySem.Stmt.If _ _ _ _) _) _ _ _ | show wpAny _ _ (compareOp PySem.CmpOp.NotEq _ _) _ _ _ | show wpAny _ _ (eval (PySem.Expr.Lambda _ _ _ _) _) _ _ _ | show wpAny _ _ (compareOp PySem.CmpOp.Eq (Value.ref _) (Value.ref _)) _ _ _ | refine tR 426 ?_ | refine tR 433 ?_ | refine tR 314 ?_ | refine tR 321 ?_ | refine tR 377 ?_ | refine tR 370 ?_ | refine tR 286 ?_ | refine tR 384 ?_ | refine tR 391 ?_ | refine tR 45 ?_ | refine tR 475 ?_ | refine tR 482 ?_ | refine tR 489 ?_ | refine tR 496 ?_ | refine tR 503 ?_ | refine tR 510 ?_))); first | ((with_reducible show WhileStep2 _ _ _ _ _ _ (Flow.ret _) _); dsimp only [WhileStep2]) | ((with_reducible show TurnP _ _ _ _ _ _ _ _ _ (Flow.ret _) _); dsimp only [TurnP]) | (k_unfold; (try dsimp only)) | (k_end; first | refine' next_q (by with_reducible assumption) ?_ | refine' ret_q (by with_reducible assumption) ?_ | refine' brk_q (by with_reducible assumption) ?_ | refine' cont_q (by with_reducible assumption) ?_) | (k_end; wrow_close) | walk1 | (dsimp only; walk1) | (leave1; walk_say "STEP leave1"; try dsimp only)) | fail "no step"))
          (rename Fr _ _ _ _ => F4)
          (rename News _ _ _ _ => N4)
          refine' hIt.use Mq Pq row (by k_asm) F4 (by k_asm) N4 sub0 (by k_asm) rfl ⟨_, rfl, hrow, hrl⟩ (by ktr_room) (by ktr_units) ?_
          rintro r7 P7 h7 tk7 F7 N7 hs7 hf7 hits
          have hc6' := hs7 _ hc6
          have hc4' := hs7 _ hc4
          have hc5' := hs7 _ hc5
          clear F4 N4
          (repeat' (first | ((fail_if_success (with_reducible (first | refine tW ?_ | refine tI ?_ | refine tF ?_ | refine tC ?_ | refine tX ?_ | refine tR 208 ?_ | refine tR 522 ?_ | refine tR 515 ?_ | refine tR 412 ?_ | refine tR 419 ?_ | show wpAny _ _ (eval (PySem.Expr.ListComp _ _ _ _) _) _ _ _ | show wpAny _ _ (exec (PySem.Stmt.Assign _ (PySem.Expr.ListComp _ _ _ _) _) _) _ _ _ | show wpAny _ _ (exec (PySem.Stmt.If _ _ _ _) _) _ _ _ | show wpAny _ _ (compareOp PySem.CmpOp.NotEq _ _) _ _ _ | show wpAny _ _ (eval (PySem.Expr.Lambda _ _ _ _) _) _ _ _ | show wpAny _ _ (compareOp PySem.CmpOp.Eq (Value.ref _) (Value.ref _)) _ _ _ | refine tR 426 ?_ | refine tR 433 ?_ | refine tR 314 ?_ | refine tR 321 ?_ | refine tR 377 ?_ | refine tR 370 ?_ | refine tR 286 ?_ | refine tR 384 ?_ | refine tR 391 ?_ | refine tR 45 ?_ | refine tR 475 ?_ | refine tR 482 ?_ | refine tR 489 ?_ | refine tR 496 ?_ | refine tR 503 ?_ | refine tR 510 ?_))); first | ((with_reducible show WhileStep2 _ _ _ _ _ _ (Flow.ret _) _); dsimp only [WhileStep2]) | ((with_reducible show TurnP _ _ _ _ _ _ _ _ _ (Flow.ret _) _); dsimp only [TurnP]) | (k_unfold; (try dsimp only)) | (k_end; first | refine' next_q (by with_reducible assumption) ?_ | refine' ret_q (by with_reducible assumption) ?_ | refine' brk_q (by with_reducible assumption) ?_ | refine' cont_q (by with_reducible assumption) ?_) | (k_end; wrow_close) | walk1 | (dsimp only; walk1) | (leave1; walk_say "STEP leave1"; try dsimp only)) | fail "no step"))
          (rename Fr _ _ _ _ => F8)
          (rename News _ _ _ _ => N8)
          refine' hBr.use Mq P7 (T, row, x) (by k_asm) F8 (by k_asm) N8 sub0 (by k_asm) rfl ⟨_, _, _, rfl, hits, hkn.mono hs7, hop2.mono hs7, hx, hvl, hrl⟩ (by ktr_room) (by ktr_units) ?_ ?_
          · rintro r9 P9 h9 tk9 F9 N9 hs9 hf9 hDD1
            walk_at "norm"
            obtain ⟨t, hrun, hn⟩ := hDD1
            (repeat' (first | ((fail_if_success (with_reducible (first | refine tW ?_ | refine tI ?_ | refine tF ?_ | refine tC ?_ | refine tX ?_ | refine tR 208 ?_ | refine tR 522 ?_ | refine tR 515 ?_ | refine tR 412 ?_ | refine tR 419 ?_ | show wpAny _ _ (eval (PySem.Expr.ListComp _ _ _ _) _) _ _ _ | show wpAny _ _ (exec (PySem.Stmt.Assign _ (PySem.Expr.ListComp _ _ _ _) _) _) _ _ _ | show wpAny _ _ (exec (PySem.Stmt.If _ _ _ _) _) _ _ _ | show wpAny _ _ (compareOp PySem.CmpOp.NotEq _ _) _ _ _ | show wpAny _ _ (eval (PySem.Expr.Lambda _ _ _ _) _) _ _ _ | show wpAny _ _ (compareOp PySem.CmpOp.Eq (Value.ref _) (Value.ref _)) _ _ _ | refine tR 426 ?_ | refine tR 433 ?_ | refine tR 314 ?_ | refine tR 321 ?_ | refine tR 377 ?_ | refine tR 370 ?_ | refine tR 286 ?_ | refine tR 384 ?_ | refine tR 391 ?_ | refine tR 45 ?_ | refine tR 475 ?_ | refine tR 482 ?_ | refine tR 489 ?_ | refine tR 496 ?_ | refine tR 503 ?_ | refine tR 510 ?_))); first | ((with_reducible show WhileStep2 _ _ _ _ _ _ (Flow.ret _) _); dsimp only [WhileStep2]) | ((with_reducible show TurnP _ _ _ _ _ _ _ _ _ (Flow.ret _) _); dsimp only [TurnP]) | (k_unfold; (try dsimp only)) | (k_end; first | refine' next_q (by with_reducible assumption) ?_ | refine' ret_q (by with_reducible assumption) ?_ | refine' brk_q (by with_reducible assumption) ?_ | refine' cont_q (by with_reducible assumption) ?_) | (k_end; wrow_close) | walk1 | (dsimp only; walk1) | (leave1; walk_say "STEP leave1"; try dsimp only)) | fail "no step"))
            exact hret _ P9 _ _ (by assumption) (by assumption) (fun p hp => hs9 p (hs7 p hp)) (Gr.refl.call hs7 hf7 |>.call hs9 hf9).fr ⟨t, hrun, hn, by have := yld_size t; rw [(bound_s (.inr ⟨x, rfl⟩) hvl hrun).2.1] at this; omega⟩
          · intro e9 h9 G9 tk9 hF9 hR9 hU9 hz9
            refine' leave_onT ?K rfl ?F hR9 hU9 ?_
            (case K => assumption)
            (case F => assumption)
            intro h11 R11 U11
            exact hrz _ _ _ _ (by assumption) (RaisedSN.less (by assumption) (fun p hp => (List.mem_append.mp hp).elim (fun hp => List.mem_append_left _ hp) (fun hp => List.mem_append_right _ (hs7 _ hp)))) (by assumption) hz9
        have htold2 := told_spec w f2 hdeed2 (fun P d h => by subst hfo2; exact ⟨_, _, _, _, h.1⟩)
        clear hdeed2 hfo2
        obtain ⟨tb, N19⟩ : ∃ tb, News g2 L1 h17 ((f2, fo2) :: (c2, oc2) :: (524, tabObj tb) :: (M ++ P15)) := ⟨_, N18⟩
        clear N18
        have s15 : ∀ p ∈ P15, p ∈ (f2, fo2) :: (c2, oc2) :: P15 := fun p hp => .tail _ (.tail _ hp)
        refine' TSpec.use htold2 ((524, tabObj tb) :: M) ((f2, fo2) :: (c2, oc2) :: P15) () B2 F17 X2 N19 sub_two T2 XB TB D2 rfl ⟨rfl, .head _, .tail _ (.head _), s15 _ k6', s15 _ k4', s15 _ k5', hrow.mono fun p hp => s15 p (hsP15 p hp), hkn.mono fun p hp => s15 p (hsP15 p hp), hop15.mono s15⟩ (by ktr_room) (by ktr_units) ?_
        rintro g3 r18 P18 h18 tk18 KT3 B3 X3 T3 D3 F18 N18 hs18 hf18 hpost18
        have hsP18 : ∀ p ∈ P, p ∈ P18 := fun p hp => hs18 p (s15 p (hsP15 p hp))
        have k2 := hs18 _ (s15 _ k2')
        have k3 := hs18 _ (s15 _ k3')
        have k5 := hs18 _ (s15 _ k5')
        clear hs18 hf18 htold2 F17 N19 s15 e1 e2 k6' k2' k3' k4' k5' hop15 hsP15 off15 lc2 lf2 B2 X2 T2 D2
        dsimp only at hpost18
        obtain ⟨MM, hMM⟩ : ∃ MM, (524, tabObj tb) :: M = MM := ⟨_, rfl⟩
        rw [hMM] at N18
        (repeat' (first | ((fail_if_success (with_reducible (first | refine tW ?_ | refine tI ?_ | refine tF ?_ | refine tC ?_ | refine tX ?_ | refine tR 208 ?_ | refine tR 522 ?_ | refine tR 515 ?_ | refine tR 412 ?_ | refine tR 419 ?_ | show wpAny _ _ (eval (PySem.Expr.ListComp _ _ _ _) _) _ _ _ | show wpAny _ _ (exec (PySem.Stmt.Assign _ (PySem.Expr.ListComp _ _ _ _) _) _) _ _ _ | show wpAny _ _ (exec (PySem.Stmt.If _ _ _ _) _) _ _ _ | show wpAny _ _ (compareOp PySem.CmpOp.NotEq _ _) _ _ _ | show wpAny _ _ (eval (PySem.Expr.Lambda _ _ _ _) _) _ _ _ | show wpAny _ _ (compareOp PySem.CmpOp.Eq (Value.ref _) (Value.ref _)) _ _ _ | refine tR 426 ?_ | refine tR 433 ?_ | refine tR 314 ?_ | refine tR 321 ?_ | refine tR 377 ?_ | refine tR 370 ?_ | refine tR 286 ?_ | refine tR 384 ?_ | refine tR 391 ?_ | refine tR 45 ?_ | refine tR 475 ?_ | refine tR 482 ?_ | refine tR 489 ?_ | refine tR 496 ?_ | refine tR 503 ?_ | refine tR 510 ?_))); first | ((with_reducible show WhileStep2 _ _ _ _ _ _ (Flow.ret _) _); dsimp only [WhileStep2]) | ((with_reducible show TurnP _ _ _ _ _ _ _ _ _ (Flow.ret _) _); dsimp only [TurnP]) | (k_unfold; (try dsimp only)) | (k_end; first | refine' next_q (by with_reducible assumption) ?_ | refine' ret_q (by with_reducible assumption) ?_ | refine' brk_q (by with_reducible assumption) ?_ | refine' cont_q (by with_reducible assumption) ?_) | (k_end; wrow_close) | walk1 | (dsimp only; walk1) | (leave1; walk_say "STEP leave1"; try dsimp only)) | fail "no step"))
        (rename Fr _ _ _ _ => F9)
        refine LCt.Assign_ListComp_T (F₀ := F9) (by rfl) (by with_unfolding_all rfl) (by with_unfolding_all rfl) (by decide) (by rfl) (by decide) (by rfl) (by rfl) (by rfl) ?_
        (repeat' (first | ((fail_if_success (with_reducible (first | refine tW ?_ | refine tI ?_ | refine tF ?_ | refine tC ?_ | refine tX ?_ | refine tR 208 ?_ | refine tR 522 ?_ | refine tR 515 ?_ | refine tR 412 ?_ | refine tR 419 ?_ | show wpAny _ _ (eval (PySem.Expr.ListComp _ _ _ _) _) _ _ _ | show wpAny _ _ (exec (PySem.Stmt.Assign _ (PySem.Expr.ListComp _ _ _ _) _) _) _ _ _ | show wpAny _ _ (exec (PySem.Stmt.If _ _ _ _) _) _ _ _ | show wpAny _ _ (compareOp PySem.CmpOp.NotEq _ _) _ _ _ | show wpAny _ _ (eval (PySem.Expr.Lambda _ _ _ _) _) _ _ _ | show wpAny _ _ (compareOp PySem.CmpOp.Eq (Value.ref _) (Value.ref _)) _ _ _ | refine tR 426 ?_ | refine tR 433 ?_ | refine tR 314 ?_ | refine tR 321 ?_ | refine tR 377 ?_ | refine tR 370 ?_ | refine tR 286 ?_ | refine tR 384 ?_ | refine tR 391 ?_ | refine tR 45 ?_ | refine tR 475 ?_ | refine tR 482 ?_ | refine tR 489 ?_ | refine tR 496 ?_ | refine tR 503 ?_ | refine tR 510 ?_))); first | ((with_reducible show WhileStep2 _ _ _ _ _ _ (Flow.ret _) _); dsimp only [WhileStep2]) | ((with_reducible show TurnP _ _ _ _ _ _ _ _ _ (Flow.ret _) _); dsimp only [TurnP]) | (k_unfold; (try dsimp only)) | (k_end; first | refine' next_q (by with_reducible assumption) ?_ | refine' ret_q (by with_reducible assumption) ?_ | refine' brk_q (by with_reducible assumption) ?_ | refine' cont_q (by with_reducible assumption) ?_) | (k_end; wrow_close) | walk1 | (dsimp only; walk1) | (leave1; walk_say "STEP leave1"; try dsimp only)) | fail "no step"))
        (rename Fr _ _ _ _ => F10)
        (rename News _ _ _ _ => N10)
        refine' (hTr 11).use MM P18 (T, row) B3 F10 X3 N10 sub0 T3 rfl ⟨_, _, rfl, htb.mono hsP18, hrow.mono hsP18, hvl, hrl, Nat.le_refl _⟩ (by ktr_room) (by ktr_units) ?_
        rintro r10 P10 h10 tk10 F11 N11 hs10 hf10 hDD1
        walk_at "norm"
        refine el3 hDD1 ?_
        clear hDD1
        rintro la tvs tn ⟨rfl, hla, htrs⟩
        refine LCt.CompSrcT.ledger rfl F11 N11 (List.mem_append_right _ hla) (by rw [List.size_toArray, htrs.length, sizeLine_eq]; exact Nat.le_trans (trees_room hrl) (by decide)) fun g => ?_
        rw [List.size_toArray]
        refine comp_restT (fun i ys Pi => Gr (MM ++ P10) P10 Pi ∧ TrsAre Pi ys (((treesN T 11 row).take i).filter fun t => besideV T x t true && signedV T x t)) ?_ ⟨.refl, by simp; exact .nil⟩ ?_
        · rintro i ys Pi v I oI C oC D m₂ h tk E' hi ⟨hg, hys⟩ hv hC hx2 F3 N3 off
          have hv' : tvs[i]? = some v := by simpa using hv
          obtain ⟨t, htt, hti⟩ := htrs.at hv'
          have hti' := hti.mono hg.sub
          have k2p := hg.sub _ (hs10 _ k2)
          have k3p := hg.sub _ (hs10 _ k3)
          have htb3 := htb.mono fun p hp => hg.sub p (hs10 p (hsP18 p hp))
          have hsz : t.size ≤ 100 := by have := treesN_size T 11 row t (List.mem_of_getElem? htt); omega
          (repeat' (first | ((fail_if_success (with_reducible (first | refine tW ?_ | refine tI ?_ | refine tF ?_ | refine tC ?_ | refine tX ?_ | refine tR 208 ?_ | refine tR 522 ?_ | refine tR 515 ?_ | refine tR 412 ?_ | refine tR 419 ?_ | show wpAny _ _ (eval (PySem.Expr.ListComp _ _ _ _) _) _ _ _ | show wpAny _ _ (exec (PySem.Stmt.Assign _ (PySem.Expr.ListComp _ _ _ _) _) _) _ _ _ | show wpAny _ _ (exec (PySem.Stmt.If _ _ _ _) _) _ _ _ | show wpAny _ _ (compareOp PySem.CmpOp.NotEq _ _) _ _ _ | show wpAny _ _ (eval (PySem.Expr.Lambda _ _ _ _) _) _ _ _ | show wpAny _ _ (compareOp PySem.CmpOp.Eq (Value.ref _) (Value.ref _)) _ _ _ | refine tR 426 ?_ | refine tR 433 ?_ | refine tR 314 ?_ | refine tR 321 ?_ | refine tR 377 ?_ | refine tR 370 ?_ | refine tR 286 ?_ | refine tR 384 ?_ | refine tR 391 ?_ | refine tR 45 ?_ | refine tR 475 ?_ | refine tR 482 ?_ | refine tR 489 ?_ | refine tR 496 ?_ | refine tR 503 ?_ | refine tR 510 ?_))); first | ((with_reducible show WhileStep2 _ _ _ _ _ _ (Flow.ret _) _); dsimp only [WhileStep2]) | ((with_reducible show TurnP _ _ _ _ _ _ _ _ _ (Flow.ret _) _); dsimp only [TurnP]) | (k_unfold; (try dsimp only)) | (k_end; first | refine' next_q (by with_reducible assumption) ?_ | refine' ret_q (by with_reducible assumption) ?_ | refine' brk_q (by with_reducible assumption) ?_ | refine' cont_q (by with_reducible assumption) ?_) | (k_end; wrow_close) | walk1 | (dsimp only; walk1) | (leave1; walk_say "STEP leave1"; try dsimp only)) | fail "no step"))
          (rename Fr _ _ _ _ => F12)
          (rename News _ _ _ _ => N12)
          refine' hBe.use ((I, oI) :: (C, oC) :: (D, LCg.lst ys) :: MM) Pi (T, x, t, true) B3 F12 X3 N12 (fun p hp => hp) T3 rfl ⟨_, _, _, _, rfl, htb3, hti', hsz⟩ (by ktr_room) (by ktr_units) ?_
          rintro r12 P12 h12 tk12 F13 N13 hs12 hf12 hb12
          dsimp only at hb12
          have hla12 := hs12 _ (hg.sub _ hla)
          cases hb : besideV T x t true with
          | false =>
            rw [hb] at hb12
            subst hb12
            (repeat' (first | ((fail_if_success (with_reducible (first | refine tW ?_ | refine tI ?_ | refine tF ?_ | refine tC ?_ | refine tX ?_ | refine tR 208 ?_ | refine tR 522 ?_ | refine tR 515 ?_ | refine tR 412 ?_ | refine tR 419 ?_ | show wpAny _ _ (eval (PySem.Expr.ListComp _ _ _ _) _) _ _ _ | show wpAny _ _ (exec (PySem.Stmt.Assign _ (PySem.Expr.ListComp _ _ _ _) _) _) _ _ _ | show wpAny _ _ (exec (PySem.Stmt.If _ _ _ _) _) _ _ _ | show wpAny _ _ (compareOp PySem.CmpOp.NotEq _ _) _ _ _ | show wpAny _ _ (eval (PySem.Expr.Lambda _ _ _ _) _) _ _ _ | show wpAny _ _ (compareOp PySem.CmpOp.Eq (Value.ref _) (Value.ref _)) _ _ _ | refine tR 426 ?_ | refine tR 433 ?_ | refine tR 314 ?_ | refine tR 321 ?_ | refine tR 377 ?_ | refine tR 370 ?_ | refine tR 286 ?_ | refine tR 384 ?_ | refine tR 391 ?_ | refine tR 45 ?_ | refine tR 475 ?_ | refine tR 482 ?_ | refine tR 489 ?_ | refine tR 496 ?_ | refine tR 503 ?_ | refine tR 510 ?_))); first | ((with_reducible show WhileStep2 _ _ _ _ _ _ (Flow.ret _) _); dsimp only [WhileStep2]) | ((with_reducible show TurnP _ _ _ _ _ _ _ _ _ (Flow.ret _) _); dsimp only [TurnP]) | (k_unfold; (try dsimp only)) | (k_end; first | refine' next_q (by with_reducible assumption) ?_ | refine' ret_q (by with_reducible assumption) ?_ | refine' brk_q (by with_reducible assumption) ?_ | refine' cont_q (by with_reducible assumption) ?_) | (k_end; wrow_close) | walk1 | (dsimp only; walk1) | (leave1; walk_say "STEP leave1"; try dsimp only)) | fail "no step"))
            exact ⟨_, _, MM ++ P12, rfl, by assumption, by assumption, off3_fresh off hf12, .inr ⟨_, List.mem_append_right _ hla12, rfl, _, rfl⟩, P12, rfl, hg.call hs12 (fr_drop3 hf12), trs_drop (hys.mono hs12) htt (by rw [hb]; rfl)⟩
          | true =>
            rw [hb] at hb12
            subst hb12
            have k2q := hs12 _ k2p
            have k3q := hs12 _ k3p
            have htb4 := htb3.mono hs12
            have hti4 := hti'.mono hs12
            (repeat' (first | ((fail_if_success (with_reducible (first | refine tW ?_ | refine tI ?_ | refine tF ?_ | refine tC ?_ | refine tX ?_ | refine tR 208 ?_ | refine tR 522 ?_ | refine tR 515 ?_ | refine tR 412 ?_ | refine tR 419 ?_ | show wpAny _ _ (eval (PySem.Expr.ListComp _ _ _ _) _) _ _ _ | show wpAny _ _ (exec (PySem.Stmt.Assign _ (PySem.Expr.ListComp _ _ _ _) _) _) _ _ _ | show wpAny _ _ (exec (PySem.Stmt.If _ _ _ _) _) _ _ _ | show wpAny _ _ (compareOp PySem.CmpOp.NotEq _ _) _ _ _ | show wpAny _ _ (eval (PySem.Expr.Lambda _ _ _ _) _) _ _ _ | show wpAny _ _ (compareOp PySem.CmpOp.Eq (Value.ref _) (Value.ref _)) _ _ _ | refine tR 426 ?_ | refine tR 433 ?_ | refine tR 314 ?_ | refine tR 321 ?_ | refine tR 377 ?_ | refine tR 370 ?_ | refine tR 286 ?_ | refine tR 384 ?_ | refine tR 391 ?_ | refine tR 45 ?_ | refine tR 475 ?_ | refine tR 482 ?_ | refine tR 489 ?_ | refine tR 496 ?_ | refine tR 503 ?_ | refine tR 510 ?_))); first | ((with_reducible show WhileStep2 _ _ _ _ _ _ (Flow.ret _) _); dsimp only [WhileStep2]) | ((with_reducible show TurnP _ _ _ _ _ _ _ _ _ (Flow.ret _) _); dsimp only [TurnP]) | (k_unfold; (try dsimp only)) | (k_end; first | refine' next_q (by with_reducible assumption) ?_ | refine' ret_q (by with_reducible assumption) ?_ | refine' brk_q (by with_reducible assumption) ?_ | refine' cont_q (by with_reducible assumption) ?_) | (k_end; wrow_close) | walk1 | (dsimp only; walk1) | (leave1; walk_say "STEP leave1"; try dsimp only)) | fail "no step"))
            (rename Fr _ _ _ _ => F14)
            (rename News _ _ _ _ => N14)
            refine' hSi.use ((I, oI) :: (C, oC) :: (D, LCg.lst ys) :: MM) P12 (T, x, t) B3 F14 X3 N14 (fun p hp => hp) T3 rfl ⟨_, _, _, rfl, htb4, hti4⟩ (by ktr_room) (by ktr_units) ?_
            rintro r16 P16 h16 tk16 F16 N16 hs16 hf16 hb16
            dsimp only at hb16
            have hla16 := hs16 _ hla12
            cases hb2 : signedV T x t with
            | false =>
              rw [hb2] at hb16
              subst hb16
              (repeat' (first | ((fail_if_success (with_reducible (first | refine tW ?_ | refine tI ?_ | refine tF ?_ | refine tC ?_ | refine tX ?_ | refine tR 208 ?_ | refine tR 522 ?_ | refine tR 515 ?_ | refine tR 412 ?_ | refine tR 419 ?_ | show wpAny _ _ (eval (PySem.Expr.ListComp _ _ _ _) _) _ _ _ | show wpAny _ _ (exec (PySem.Stmt.Assign _ (PySem.Expr.ListComp _ _ _ _) _) _) _ _ _ | show wpAny _ _ (exec (PySem.Stmt.If _ _ _ _) _) _ _ _ | show wpAny _ _ (compareOp PySem.CmpOp.NotEq _ _) _ _ _ | show wpAny _ _ (eval (PySem.Expr.Lambda _ _ _ _) _) _ _ _ | show wpAny _ _ (compareOp PySem.CmpOp.Eq (Value.ref _) (Value.ref _)) _ _ _ | refine tR 426 ?_ | refine tR 433 ?_ | refine tR 314 ?_ | refine tR 321 ?_ | refine tR 377 ?_ | refine tR 370 ?_ | refine tR 286 ?_ | refine tR 384 ?_ | refine tR 391 ?_ | refine tR 45 ?_ | refine tR 475 ?_ | refine tR 482 ?_ | refine tR 489 ?_ | refine tR 496 ?_ | refine tR 503 ?_ | refine tR 510 ?_))); first | ((with_reducible show WhileStep2 _ _ _ _ _ _ (Flow.ret _) _); dsimp only [WhileStep2]) | ((with_reducible show TurnP _ _ _ _ _ _ _ _ _ (Flow.ret _) _); dsimp only [TurnP]) | (k_unfold; (try dsimp only)) | (k_end; first | refine' next_q (by with_reducible assumption) ?_ | refine' ret_q (by with_reducible assumption) ?_ | refine' brk_q (by with_reducible assumption) ?_ | refine' cont_q (by with_reducible assumption) ?_) | (k_end; wrow_close) | walk1 | (dsimp only; walk1) | (leave1; walk_say "STEP leave1"; try dsimp only)) | fail "no step"))
              exact ⟨_, _, MM ++ P16, rfl, by assumption, by assumption, off3_fresh (off3_fresh off hf12) hf16, .inr ⟨_, List.mem_append_right _ hla16, rfl, _, rfl⟩, P16, rfl, (hg.call hs12 (fr_drop3 hf12)).call hs16 (fr_drop3 hf16), trs_drop ((hys.mono hs12).mono hs16) htt (by rw [hb, hb2]; rfl)⟩
            | true =>
              rw [hb2] at hb16
              subst hb16
              (repeat' (first | ((fail_if_success (with_reducible (first | refine tW ?_ | refine tI ?_ | refine tF ?_ | refine tC ?_ | refine tX ?_ | refine tR 208 ?_ | refine tR 522 ?_ | refine tR 515 ?_ | refine tR 412 ?_ | refine tR 419 ?_ | show wpAny _ _ (eval (PySem.Expr.ListComp _ _ _ _) _) _ _ _ | show wpAny _ _ (exec (PySem.Stmt.Assign _ (PySem.Expr.ListComp _ _ _ _) _) _) _ _ _ | show wpAny _ _ (exec (PySem.Stmt.If _ _ _ _) _) _ _ _ | show wpAny _ _ (compareOp PySem.CmpOp.NotEq _ _) _ _ _ | show wpAny _ _ (eval (PySem.Expr.Lambda _ _ _ _) _) _ _ _ | show wpAny _ _ (compareOp PySem.CmpOp.Eq (Value.ref _) (Value.ref _)) _ _ _ | refine tR 426 ?_ | refine tR 433 ?_ | refine tR 314 ?_ | refine tR 321 ?_ | refine tR 377 ?_ | refine tR 370 ?_ | refine tR 286 ?_ | refine tR 384 ?_ | refine tR 391 ?_ | refine tR 45 ?_ | refine tR 475 ?_ | refine tR 482 ?_ | refine tR 489 ?_ | refine tR 496 ?_ | refine tR 503 ?_ | refine tR 510 ?_))); first | ((with_reducible show WhileStep2 _ _ _ _ _ _ (Flow.ret _) _); dsimp only [WhileStep2]) | ((with_reducible show TurnP _ _ _ _ _ _ _ _ _ (Flow.ret _) _); dsimp only [TurnP]) | (k_unfold; (try dsimp only)) | (k_end; first | refine' next_q (by with_reducible assumption) ?_ | refine' ret_q (by with_reducible assumption) ?_ | refine' brk_q (by with_reducible assumption) ?_ | refine' cont_q (by with_reducible assumption) ?_) | (k_end; wrow_close) | walk1 | (dsimp only; walk1) | (leave1; walk_say "STEP leave1"; try dsimp only)) | fail "no step"))
              exact ⟨_, _, MM ++ P16, rfl, by assumption, by assumption, off3_fresh (off3_fresh off hf12) hf16, .inr ⟨_, List.mem_append_right _ hla16, rfl, _, rfl⟩, P16, rfl, (hg.call hs12 (fr_drop3 hf12)).call hs16 (fr_drop3 hf16), trs_take ((hys.mono hs12).mono hs16) htt (hti4.mono hs16) (by rw [hb, hb2]; rfl)⟩
        · rintro ys Pi ⟨hg, hys⟩
          rintro D h tk F3 N3 off1
          rw [htrs.length, List.take_length] at hys
          dsimp only at hys
          rw [law_right hvl hrl] at hys
          (dsimp only at F3)
          have offD := off1_all off1
          clear F10 N10 F11 N11
          subst hMM
          cases hl : boundF T row [.opn x] with
          | none =>
            rw [hl] at hys hpost18
            cases hys
            obtain rfl : r18 = Value.none := hpost18
            (repeat' (first | ((fail_if_success (with_reducible (first | refine tW ?_ | refine tI ?_ | refine tF ?_ | refine tC ?_ | refine tX ?_ | refine tR 208 ?_ | refine tR 522 ?_ | refine tR 515 ?_ | refine tR 412 ?_ | refine tR 419 ?_ | show wpAny _ _ (eval (PySem.Expr.ListComp _ _ _ _) _) _ _ _ | show wpAny _ _ (exec (PySem.Stmt.Assign _ (PySem.Expr.ListComp _ _ _ _) _) _) _ _ _ | show wpAny _ _ (exec (PySem.Stmt.If _ _ _ _) _) _ _ _ | show wpAny _ _ (compareOp PySem.CmpOp.NotEq _ _) _ _ _ | show wpAny _ _ (eval (PySem.Expr.Lambda _ _ _ _) _) _ _ _ | show wpAny _ _ (compareOp PySem.CmpOp.Eq (Value.ref _) (Value.ref _)) _ _ _ | refine tR 426 ?_ | refine tR 433 ?_ | refine tR 314 ?_ | refine tR 321 ?_ | refine tR 377 ?_ | refine tR 370 ?_ | refine tR 286 ?_ | refine tR 384 ?_ | refine tR 391 ?_ | refine tR 45 ?_ | refine tR 475 ?_ | refine tR 482 ?_ | refine tR 489 ?_ | refine tR 496 ?_ | refine tR 503 ?_ | refine tR 510 ?_))); first | ((with_reducible show WhileStep2 _ _ _ _ _ _ (Flow.ret _) _); dsimp only [WhileStep2]) | ((with_reducible show TurnP _ _ _ _ _ _ _ _ _ (Flow.ret _) _); dsimp only [TurnP]) | (k_unfold; (try dsimp only)) | (k_end; first | refine' next_q (by with_reducible assumption) ?_ | refine' ret_q (by with_reducible assumption) ?_ | refine' brk_q (by with_reducible assumption) ?_ | refine' cont_q (by with_reducible assumption) ?_) | (k_end; wrow_close) | walk1 | (dsimp only; walk1) | (leave1; walk_say "STEP leave1"; try dsimp only)) | fail "no step"))
            walk1
            (repeat' (first | ((fail_if_success (with_reducible (first | refine tW ?_ | refine tI ?_ | refine tF ?_ | refine tC ?_ | refine tX ?_ | refine tR 208 ?_ | refine tR 522 ?_ | refine tR 515 ?_ | refine tR 412 ?_ | refine tR 419 ?_ | show wpAny _ _ (eval (PySem.Expr.ListComp _ _ _ _) _) _ _ _ | show wpAny _ _ (exec (PySem.Stmt.Assign _ (PySem.Expr.ListComp _ _ _ _) _) _) _ _ _ | show wpAny _ _ (exec (PySem.Stmt.If _ _ _ _) _) _ _ _ | show wpAny _ _ (compareOp PySem.CmpOp.NotEq _ _) _ _ _ | show wpAny _ _ (eval (PySem.Expr.Lambda _ _ _ _) _) _ _ _ | show wpAny _ _ (compareOp PySem.CmpOp.Eq (Value.ref _) (Value.ref _)) _ _ _ | refine tR 426 ?_ | refine tR 433 ?_ | refine tR 314 ?_ | refine tR 321 ?_ | refine tR 377 ?_ | refine tR 370 ?_ | refine tR 286 ?_ | refine tR 384 ?_ | refine tR 391 ?_ | refine tR 45 ?_ | refine tR 475 ?_ | refine tR 482 ?_ | refine tR 489 ?_ | refine tR 496 ?_ | refine tR 503 ?_ | refine tR 510 ?_))); first | ((with_reducible show WhileStep2 _ _ _ _ _ _ (Flow.ret _) _); dsimp only [WhileStep2]) | ((with_reducible show TurnP _ _ _ _ _ _ _ _ _ (Flow.ret _) _); dsimp only [TurnP]) | (k_unfold; (try dsimp only)) | (k_end; first | refine' next_q (by with_reducible assumption) ?_ | refine' ret_q (by with_reducible assumption) ?_ | refine' brk_q (by with_reducible assumption) ?_ | refine' cont_q (by with_reducible assumption) ?_) | (k_end; wrow_close) | walk1 | (dsimp only; walk1) | (leave1; walk_say "STEP leave1"; try dsimp only)) | fail "no step"))
            exact leaveT_ (by assumption) (by assumption) (KT2.trans KT3) fun h₀' T' F' N' B' X' TT' D' => hret h₀' Pi _ _ tb T' F' (nsub N' fun p hp => .tail _ (.tail _ hp)) fun p hp => hg.sub p (hs10 p (hsP18 p hp))
          | some t =>
            rw [hl] at hys hpost18
            have hpost : DatIn P18 r18 t.dat := hpost18
            clear hpost18
            have hys : TrsAre Pi ys [t] := hys
            cases hys with
            | @cons v _ vs _ htv hnil =>
            cases hnil
            obtain ⟨a18, rfl⟩ := dat_ref hpost
            (repeat' (first | ((fail_if_success (with_reducible (first | refine tW ?_ | refine tI ?_ | refine tF ?_ | refine tC ?_ | refine tX ?_ | refine tR 208 ?_ | refine tR 522 ?_ | refine tR 515 ?_ | refine tR 412 ?_ | refine tR 419 ?_ | show wpAny _ _ (eval (PySem.Expr.ListComp _ _ _ _) _) _ _ _ | show wpAny _ _ (exec (PySem.Stmt.Assign _ (PySem.Expr.ListComp _ _ _ _) _) _) _ _ _ | show wpAny _ _ (exec (PySem.Stmt.If _ _ _ _) _) _ _ _ | show wpAny _ _ (compareOp PySem.CmpOp.NotEq _ _) _ _ _ | show wpAny _ _ (eval (PySem.Expr.Lambda _ _ _ _) _) _ _ _ | show wpAny _ _ (compareOp PySem.CmpOp.Eq (Value.ref _) (Value.ref _)) _ _ _ | refine tR 426 ?_ | refine tR 433 ?_ | refine tR 314 ?_ | refine tR 321 ?_ | refine tR 377 ?_ | refine tR 370 ?_ | refine tR 286 ?_ | refine tR 384 ?_ | refine tR 391 ?_ | refine tR 45 ?_ | refine tR 475 ?_ | refine tR 482 ?_ | refine tR 489 ?_ | refine tR 496 ?_ | refine tR 503 ?_ | refine tR 510 ?_))); first | ((with_reducible show WhileStep2 _ _ _ _ _ _ (Flow.ret _) _); dsimp only [WhileStep2]) | ((with_reducible show TurnP _ _ _ _ _ _ _ _ _ (Flow.ret _) _); dsimp only [TurnP]) | (k_unfold; (try dsimp only)) | (k_end; first | refine' next_q (by with_reducible assumption) ?_ | refine' ret_q (by with_reducible assumption) ?_ | refine' brk_q (by with_reducible assumption) ?_ | refine' cont_q (by with_reducible assumption) ?_) | (k_end; wrow_close) | walk1 | (dsimp only; walk1) | (leave1; walk_say "STEP leave1"; try dsimp only)) | fail "no step"))
            refine ne_snoc (xs := []) (v := v) (News.isList (by assumption) (.tail _ (.head _))) (News.isList (by assumption) (.head _)) (by ktr_units) ?_
            have hsz : t.size ≤ 11 := by have := yld_size t; rw [(bound_s (.inr ⟨x, rfl⟩) hvl hl).2.1] at this; omega
            (repeat' (first | ((fail_if_success (with_reducible (first | refine tW ?_ | refine tI ?_ | refine tF ?_ | refine tC ?_ | refine tX ?_ | refine tR 208 ?_ | refine tR 522 ?_ | refine tR 515 ?_ | refine tR 412 ?_ | refine tR 419 ?_ | show wpAny _ _ (eval (PySem.Expr.ListComp _ _ _ _) _) _ _ _ | show wpAny _ _ (exec (PySem.Stmt.Assign _ (PySem.Expr.ListComp _ _ _ _) _) _) _ _ _ | show wpAny _ _ (exec (PySem.Stmt.If _ _ _ _) _) _ _ _ | show wpAny _ _ (compareOp PySem.CmpOp.NotEq _ _) _ _ _ | show wpAny _ _ (eval (PySem.Expr.Lambda _ _ _ _) _) _ _ _ | show wpAny _ _ (compareOp PySem.CmpOp.Eq (Value.ref _) (Value.ref _)) _ _ _ | refine tR 426 ?_ | refine tR 433 ?_ | refine tR 314 ?_ | refine tR 321 ?_ | refine tR 377 ?_ | refine tR 370 ?_ | refine tR 286 ?_ | refine tR 384 ?_ | refine tR 391 ?_ | refine tR 45 ?_ | refine tR 475 ?_ | refine tR 482 ?_ | refine tR 489 ?_ | refine tR 496 ?_ | refine tR 503 ?_ | refine tR 510 ?_))); first | ((with_reducible show WhileStep2 _ _ _ _ _ _ (Flow.ret _) _); dsimp only [WhileStep2]) | ((with_reducible show TurnP _ _ _ _ _ _ _ _ _ (Flow.ret _) _); dsimp only [TurnP]) | (k_unfold; (try dsimp only)) | (k_end; first | refine' next_q (by with_reducible assumption) ?_ | refine' ret_q (by with_reducible assumption) ?_ | refine' brk_q (by with_reducible assumption) ?_ | refine' cont_q (by with_reducible assumption) ?_) | (k_end; wrow_close) | walk1 | (dsimp only; walk1) | (leave1; walk_say "STEP leave1"; try dsimp only)) | fail "no step"))
            (rename Fr _ _ _ _ => F12)
            (rename News _ _ _ _ => N12)
            refine' (hNo t).use ((_, _) :: (D, LCg.lst [v]) :: ((524, tabObj tb) :: M)) Pi () B3 F12 X3 N12 (fun p hp => hp) T3 rfl ⟨_, rfl, htv⟩ (by ktr_room) (by ktr_units) ?_
            rintro r14 P14 h14 tk14 F14 N14 hs14 hf14 hdat
            dsimp only
            refine dat_eq N14 hpost (fun p hp => List.mem_append_right _ (hs14 _ (hg.sub _ (hs10 _ hp)))) hdat (fun p hp => List.mem_append_right _ hp) hsz (by ktr_units) ?_
            (repeat' (first | ((fail_if_success (with_reducible (first | refine tW ?_ | refine tI ?_ | refine tF ?_ | refine tC ?_ | refine tX ?_ | refine tR 208 ?_ | refine tR 522 ?_ | refine tR 515 ?_ | refine tR 412 ?_ | refine tR 419 ?_ | show wpAny _ _ (eval (PySem.Expr.ListComp _ _ _ _) _) _ _ _ | show wpAny _ _ (exec (PySem.Stmt.Assign _ (PySem.Expr.ListComp _ _ _ _) _) _) _ _ _ | show wpAny _ _ (exec (PySem.Stmt.If _ _ _ _) _) _ _ _ | show wpAny _ _ (compareOp PySem.CmpOp.NotEq _ _) _ _ _ | show wpAny _ _ (eval (PySem.Expr.Lambda _ _ _ _) _) _ _ _ | show wpAny _ _ (compareOp PySem.CmpOp.Eq (Value.ref _) (Value.ref _)) _ _ _ | refine tR 426 ?_ | refine tR 433 ?_ | refine tR 314 ?_ | refine tR 321 ?_ | refine tR 377 ?_ | refine tR 370 ?_ | refine tR 286 ?_ | refine tR 384 ?_ | refine tR 391 ?_ | refine tR 45 ?_ | refine tR 475 ?_ | refine tR 482 ?_ | refine tR 489 ?_ | refine tR 496 ?_ | refine tR 503 ?_ | refine tR 510 ?_))); first | ((with_reducible show WhileStep2 _ _ _ _ _ _ (Flow.ret _) _); dsimp only [WhileStep2]) | ((with_reducible show TurnP _ _ _ _ _ _ _ _ _ (Flow.ret _) _); dsimp only [TurnP]) | (k_unfold; (try dsimp only)) | (k_end; first | refine' next_q (by with_reducible assumption) ?_ | refine' ret_q (by with_reducible assumption) ?_ | refine' brk_q (by with_reducible assumption) ?_ | refine' cont_q (by with_reducible assumption) ?_) | (k_end; wrow_close) | walk1 | (dsimp only; walk1) | (leave1; walk_say "STEP leave1"; try dsimp only)) | fail "no step"))
            exact leaveT_ (by assumption) (by assumption) (KT2.trans KT3) fun h₀' T' F' N' B' X' TT' D' => hret h₀' P14 _ _ tb T' F' (nsub N' fun p hp => .tail _ (.tail _ hp)) fun p hp => hs14 p (hg.sub p (hs10 p (hsP18 p hp))))

end
section
-- ## known = dict([..])
noncomputable def KnJ (P : Led) (T : Tb) (i : Nat) (ys : List Value) : Prop := ys.length = i ∧ ∀ (j : Nat) (v : Value), ys[j]? = some v → ∃ p t n fv, v = .ref p ∧ (p, tupO [.str (nmAt j).str t, fv] n) ∈ P ∧ FixIn P fv (T.get (nmAt j))
theorem KnJ.mono {P P' : Led} {T : Tb} {i : Nat} {ys : List Value} (h : KnJ P T i ys) (hs : ∀ p ∈ P, p ∈ P') : KnJ P' T i ys := ⟨h.1, fun j v hv => by
  obtain ⟨p, t, n, fv, e, hm, hf⟩ := h.2 j v hv
  exact ⟨p, t, n, fv, e, hs _ hm, hf.mono hs⟩⟩
theorem KnJ.snoc {P : Led} {T : Tb} {i : Nat} {ys : List Value} {p : Addr} {t : Tok} {n : Nat} {fv : Value} (h : KnJ P T i ys) (hm : (p, tupO [.str (nmAt i).str t, fv] n) ∈ P) (hf : FixIn P fv (T.get (nmAt i))) : KnJ P T (i + 1) (ys ++ [.ref p]) := by
  refine ⟨by simp [h.1], fun j v hv => ?_⟩
  by_cases hj : j < ys.length
  · rw [List.getElem?_append_left hj] at hv
    exact h.2 j v hv
  · rw [List.getElem?_append_right (by omega)] at hv
    have : j - ys.length = 0 := by
      by_cases e : j - ys.length = 0
      · exact e
      · obtain ⟨k, hk⟩ : ∃ k, j - ys.length = k + 1 := ⟨j - ys.length - 1, by omega⟩
        rw [hk] at hv
        cases hv
    rw [this] at hv
    cases hv
    have : j = i := by have := h.1; omega
    subst this
    exact ⟨p, t, n, fv, rfl, hm, hf⟩
theorem nm_ne {x y : Nm} (h : x ≠ y) : ¬ x.str = y.str := fun e => h (nm_inj _ _ e)
section
variable {w : World} {A : Around} {E : Value → Shared → Prop} {s : Shared} {h₀ : Heap} {L : Addr} {m : Str → Option Value} {mean : ExcName → Option Value} {mg mb : Str → Option Value}
theorem known_dict {D : Addr} {ys : List Value} {M Pi : Led} {T : Tb} {Q : Value → Shared → Prop} (hA : A.handled = none) (F : Fr h₀ L s.heap m) (N : News h₀ L s.heap ((D, LCg.lst ys) :: (M ++ Pi))) (TT : Top topProg LO2 mean mg mb h₀) (hJ : KnJ Pi T 3 ys)
    (k : ∀ d o h' tk, Fr h₀ L h' m → News h₀ L h' ((d, o) :: (M ++ Pi)) → (∀ p ∈ M ++ Pi, p.1 < d) → KnIn w ((d, o) :: Pi) (.ref d) T → Q (.ref d) { s with heap := h', toks := tk }) :
    wpAny (model PySem.Challenge.rw_np0230_01.row.prog w) A (call (.type "dict") [.ref D]) Q E s := by
  obtain ⟨hlen, hJ⟩ := hJ
  obtain ⟨v0, v1, v2, rfl⟩ : ∃ v0 v1 v2, ys = [v0, v1, v2] := by
    match ys, hlen with
    | [a, b, c], _ => exact ⟨a, b, c, rfl⟩
  obtain ⟨p0, t0, n0, f0, rfl, m0, x0⟩ := hJ 0 v0 rfl
  obtain ⟨p1, t1, n1, f1, rfl, m1, x1⟩ := hJ 1 v1 rfl
  obtain ⟨p2, t2, n2, f2, rfl, m2, x2⟩ := hJ 2 v2 rfl
  have inN : ∀ p ∈ Pi, p ∈ (D, LCg.lst [Value.ref p0, .ref p1, .ref p2]) :: (M ++ Pi) := fun p hp => .tail _ (List.mem_append_right _ hp)
  refine call_dict_pairs (kvs := [(Nm.a.str, f0), (Nm.b.str, f1), (Nm.c.str, f2)]) hA (N _ (.head _)).1 rfl (show 3 ≤ 100 by decide) ?_ fun h' tk hd kk => ?_
  · intro j v kv hj hkj
    rcases j with _ | _ | _ | j
    · cases hj; cases hkj; exact ⟨p0, t0, n0, rfl, (N _ (inN _ m0)).1⟩
    · cases hj; cases hkj; exact ⟨p1, t1, n1, rfl, (N _ (inN _ m1)).1⟩
    · cases hj; cases hkj; exact ⟨p2, t2, n2, rfl, (N _ (inN _ m2)).1⟩
    · cases hj
  · obtain ⟨o, ho, hdo⟩ := Heap.dictOf_iff.mp hd
    have lt : ∀ p ∈ M ++ Pi, p.1 < s.heap.objs.size := fun p hp => Heap.lt_size (N _ (.tail _ hp)).1
    refine k s.heap.objs.size o h' tk (F.keeps kk) (fun p hp => ?_) lt ⟨_, o, _, rfl, .head _, F.notModules (modules_low TT.nolimit), hdo, fun x hx => ?_⟩
    · rcases List.mem_cons.mp hp with rfl | hp
      · exact ⟨ho, Nat.ne_of_gt F.ns.lt, next_is_new F⟩
      · exact ⟨kk _ _ (N p (.tail _ hp)).1, (N p (.tail _ hp)).2⟩
    · simp only [List.foldl_cons, List.foldl_nil, valueAt_set]
      cases x with
      | mi => exact absurd rfl hx
      | col => exact .inl ⟨rfl, by rw [if_neg (nm_ne (by decide)), if_neg (nm_ne (by decide)), if_neg (nm_ne (by decide))]; rfl⟩
      | a => exact .inr ⟨f0, by rw [if_neg (nm_ne (by decide)), if_neg (nm_ne (by decide)), if_pos rfl], x0.mono fun p hp => .tail _ hp⟩
      | b => exact .inr ⟨f1, by rw [if_neg (nm_ne (by decide)), if_pos rfl], x1.mono fun p hp => .tail _ hp⟩
      | c => exact .inr ⟨f2, by rw [if_pos rfl], x2.mono fun p hp => .tail _ hp⟩
end

end
section
-- ## the law
theorem abs_law {g h : Heap} {L : Addr} {M : Led} {c3 c1 r : Addr × Obj} {PT : Led} (N : News g L h (M ++ (c3 :: c1 :: r :: PT))) : ∃ M' P', M = M' ∧ c3 :: c1 :: r :: PT = P' ∧ c3 ∈ P' ∧ c1 ∈ P' ∧ r ∈ P' ∧ (∀ p ∈ PT, p ∈ P') ∧ News g L h (M' ++ P') :=
  ⟨_, _, rfl, rfl, .head _, .tail _ (.head _), .tail _ (.tail _ (.head _)), fun _ hp => .tail _ (.tail _ (.tail _ hp)), N⟩
theorem lw_sub1 {tp s r c1 c2 c3 a b : Addr × Obj} {PT : Led} : ∀ p ∈ c1 :: c3 :: c2 :: a :: b :: s :: r :: PT, p ∈ tp :: s :: r :: (PT ++ [c3, c2, c1, a, b]) := by
  intro p hp
  simp only [List.mem_cons, List.mem_append, List.not_mem_nil, or_false] at hp ⊢
  rcases hp with h | h | h | h | h | h | h | h <;> simp only [h, true_or, or_true]
theorem lw_sub2 {s r c1 c2 c3 a b : Addr × Obj} {PT : Led} : ∀ p ∈ c3 :: c1 :: c2 :: a :: b :: s :: r :: PT, p ∈ c1 :: c3 :: c2 :: a :: b :: s :: r :: PT := by
  intro p hp
  simp only [List.mem_cons] at hp ⊢
  rcases hp with h | h | h | h | h | h | h | h <;> simp only [h, true_or, or_true]
theorem lw_sub3 {s r c1 c2 c3 a b : Addr × Obj} {PT : Led} : ∀ p ∈ [c2, a, b, s] ++ (c3 :: c1 :: r :: PT), p ∈ c3 :: c1 :: c2 :: a :: b :: s :: r :: PT := by
  intro p hp
  simp only [List.mem_cons, List.mem_append, List.not_mem_nil, or_false] at hp ⊢
  rcases hp with (h | h | h | h) | h | h | h | h <;> simp only [h, true_or, or_true]
theorem kn_sub {a b c e : Addr × Obj} {M P : Led} : ∀ p ∈ a :: b :: c :: (M ++ (e :: P)), p ∈ e :: a :: b :: c :: (M ++ P) := by
  intro p hp
  simp only [List.mem_cons, List.mem_append] at hp ⊢
  rcases hp with h | h | h | h | h | h <;> simp only [h, true_or, or_true]
theorem off3_new {I C D Tp : Addr} {o : Obj} {M P : Led} (h : LCg.Off3 I C D (M ++ P)) (l1 : I < Tp) (l2 : C < Tp) (l3 : D < Tp) : LCg.Off3 I C D (M ++ ((Tp, o) :: P)) := by
  refine LCg.Off3.of fun p hp => ?_
  rcases List.mem_append.mp hp with hp | hp
  · exact h.mem p (List.mem_append_left _ hp)
  · rcases List.mem_cons.mp hp with rfl | hp
    · exact ⟨Nat.ne_of_gt l1, Nat.ne_of_gt l2, Nat.ne_of_gt l3⟩
    · exact h.mem p (List.mem_append_right _ hp)
theorem grow_off {M P P' : Led} {a : Addr} {o : Obj} (h : ∀ p ∈ P, p.1 ≠ a) (g : Gr (M ++ P) P P') (hm : (a, o) ∈ M) : ∀ p ∈ P', p.1 ≠ a := by
  intro p hp
  rcases g.fr p hp with q | q
  · exact h p q
  · exact Ne.symm (q (a, o) (List.mem_append_left _ hm))
theorem lw_sub4 {d c2 a b s : Addr × Obj} {P : Led} : ∀ p ∈ c2 :: a :: b :: s :: d :: P, p ∈ d :: ([c2, a, b, s] ++ P) := by
  intro p hp
  simp only [List.cons_append, List.nil_append, List.mem_cons] at hp ⊢
  rcases hp with h | h | h | h | h | h <;> simp only [h, true_or, or_true]
theorem lw_sub5 {d c2 a b s : Addr × Obj} {P : Led} : ∀ p ∈ [b, a, s] ++ (c2 :: d :: P), p ∈ c2 :: a :: b :: s :: d :: P := by
  intro p hp
  simp only [List.cons_append, List.nil_append, List.mem_cons] at hp ⊢
  rcases hp with h | h | h | h | h | h <;> simp only [h, true_or, or_true]
theorem lw_offs {L0 S R : Addr} {PT : Led} {o3 o2 o1 t4 t9 p3 p1 oR : Obj} (l524 : @LT.lt Nat instLTNat 524 L0) (l529 : @LT.lt Nat instLTNat 529 L0) (l1 : ∀ p ∈ [(L0 + 1 + 1 + 1, o3), (L0 + 1 + 1, o2), (L0 + 1, o1), (524, t4), (529, t9)], p.1 < S)
    (offR : ∀ p ∈ PT ++ [(L0 + 1 + 1 + 1, o3), (L0 + 1 + 1, o2), (L0 + 1, o1), (524, t4), (529, t9)], p.1 ≠ R) (fr3 : ∀ p ∈ PT, ∀ q ∈ [(L0 + 1 + 1 + 1, o3), (L0 + 1 + 1, o2), (L0 + 1, o1), (524, t4), (529, t9)], q.1 ≠ p.1) (off3 : ∀ p ∈ PT ++ [(L0 + 1 + 1 + 1, o3), (L0 + 1 + 1, o2), (L0 + 1, o1), (524, t4), (529, t9)], p.1 ≠ S) (hRS : R ≠ S) :
    (∀ p ∈ (L0 + 1 + 1 + 1, p3) :: (L0 + 1, p1) :: (R, oR) :: PT, p.1 ≠ L0 + 1 + 1) ∧ (∀ p ∈ (L0 + 1 + 1 + 1, p3) :: (L0 + 1, p1) :: (R, oR) :: PT, p.1 ≠ 524) ∧ (∀ p ∈ (L0 + 1 + 1 + 1, p3) :: (L0 + 1, p1) :: (R, oR) :: PT, p.1 ≠ 529) ∧ ∀ p ∈ (L0 + 1 + 1 + 1, p3) :: (L0 + 1, p1) :: (R, oR) :: PT, p.1 ≠ S := by
  refine ⟨?_, ?_, ?_, ?_⟩
  · exact off_cons (Nat.ne_of_gt (by omega)) (off_cons (Nat.ne_of_lt (by omega)) (off_cons (Ne.symm (offR (L0 + 1 + 1, o2) (List.mem_append_right _ (.tail _ (.head _))))) fun p hp => Ne.symm (fr3 p hp (L0 + 1 + 1, o2) (.tail _ (.head _)))))
  · exact off_cons (Nat.ne_of_gt (by omega)) (off_cons (Nat.ne_of_gt (by omega)) (off_cons (Ne.symm (offR (524, t4) (List.mem_append_right _ (.tail _ (.tail _ (.tail _ (.head _))))))) fun p hp => Ne.symm (fr3 p hp (524, t4) (.tail _ (.tail _ (.tail _ (.head _)))))))
  · exact off_cons (Nat.ne_of_gt (by omega)) (off_cons (Nat.ne_of_gt (by omega)) (off_cons (Ne.symm (offR (529, t9) (List.mem_append_right _ (.tail _ (.tail _ (.tail _ (.tail _ (.head _)))))))) fun p hp => Ne.symm (fr3 p hp (529, t9) (.tail _ (.tail _ (.tail _ (.tail _ (.head _))))))))
  · exact off_cons (Nat.ne_of_lt (l1 (L0 + 1 + 1 + 1, o3) (.head _))) (off_cons (Nat.ne_of_lt (l1 (L0 + 1, o1) (.tail _ (.tail _ (.head _))))) (off_cons hRS fun p hp => off3 p (List.mem_append_left _ hp)))
theorem abs_law2 {g h : Heap} {L : Addr} {M : Led} {c2 e : Addr × Obj} {Pi : Led} (N : News g L h (M ++ (c2 :: e :: Pi))) : ∃ P', c2 :: e :: Pi = P' ∧ c2 ∈ P' ∧ (∀ p ∈ e :: Pi, p ∈ P') ∧ (∀ p ∈ Pi, p ∈ P') ∧ News g L h (M ++ P') :=
  ⟨_, rfl, .head _, fun _ hp => .tail _ hp, fun _ hp => .tail _ (.tail _ hp), N⟩
theorem lw_offs2 {L0 S d : Addr} {Pi : Led} {p2 od : Obj} (l524 : @LT.lt Nat instLTNat 524 L0) (l529 : @LT.lt Nat instLTNat 529 L0) (h2 : L0 + 1 + 1 < S) (h4 : 524 < S) (h9 : 529 < S) (ld : S < d) (o529 : ∀ p ∈ Pi, p.1 ≠ 529) (o524 : ∀ p ∈ Pi, p.1 ≠ 524) (oS : ∀ p ∈ Pi, p.1 ≠ S) :
    (∀ p ∈ (L0 + 1 + 1, p2) :: (d, od) :: Pi, p.1 ≠ 529) ∧ (∀ p ∈ (L0 + 1 + 1, p2) :: (d, od) :: Pi, p.1 ≠ 524) ∧ ∀ p ∈ (L0 + 1 + 1, p2) :: (d, od) :: Pi, p.1 ≠ S :=
  ⟨off_cons (Nat.ne_of_gt (by omega)) (off_cons (Nat.ne_of_gt (Nat.lt_trans h9 ld)) o529), off_cons (Nat.ne_of_gt (by omega)) (off_cons (Nat.ne_of_gt (Nat.lt_trans h4 ld)) o524), off_cons (Nat.ne_of_lt h2) (off_cons (Nat.ne_of_gt ld) oS)⟩
theorem abs_told {g h : Heap} {L : Addr} {f cc : Addr × Obj} {ps : Array Value} {R P : Led} (N : News g L h (f :: cc :: (529, tabObj ps) :: (R ++ P))) : ∃ tb P', f :: cc :: P = P' ∧ f ∈ P' ∧ cc ∈ P' ∧ (∀ p ∈ P, p ∈ P') ∧ News g L h (((529, tabObj tb) :: R) ++ P') := by
  refine ⟨ps, _, rfl, .head _, .tail _ (.head _), fun _ hp => .tail _ (.tail _ hp), nsub N fun p hp => ?_⟩
  simp only [List.cons_append, List.mem_cons, List.mem_append] at hp ⊢
  rcases hp with h | h | h | h | h <;> simp only [h, true_or, or_true]
theorem name_map {g h : Heap} {L : Addr} {m : Str → Option Value} (F : Fr g L h m) : ∃ m', m = m' ∧ Fr g L h m' := ⟨_, rfl, F⟩
theorem fr_back {g g' h : Heap} {L : Addr} {m : Str → Option Value} (T : KtsTurn [] g g') (F : Fr g' L h m) : Fr g L h m :=
  ⟨F.ns, fun b o e => F.keep b o (T.other b o e (fun hm => nomatch hm)), by have := F.above; rw [T.size] at this; exact this⟩
theorem news_back {g g' h : Heap} {L : Addr} {nw : Led} (T : KtsTurn [] g g') (N : News g' L h nw) : News g L h nw := fun p hp => ⟨(N p hp).1, (N p hp).2.1, by
  cases q : g.get? p.1 with
  | none => rfl
  | some o => have := T.other _ _ q (fun hm => nomatch hm); rw [(N p hp).2.2] at this; cases this⟩
theorem lw_sub6 {a b s : Addr × Obj} {P : Led} : ∀ p ∈ s :: a :: b :: P, p ∈ [a, b, s] ++ P := by
  intro p hp
  simp only [List.cons_append, List.nil_append, List.mem_cons] at hp ⊢
  rcases hp with h | h | h | h <;> simp only [h, true_or, or_true]
theorem lw_sub7 {a b s : Addr × Obj} {P : Led} : ∀ p ∈ b :: ([a, s] ++ P), p ∈ s :: a :: b :: P := by
  intro p hp
  simp only [List.cons_append, List.nil_append, List.mem_cons] at hp ⊢
  rcases hp with h | h | h | h <;> simp only [h, true_or, or_true]
theorem law_main (hPo : ∀ w, PoolS w) (hTa : ∀ w, TableS w) (hDr : ∀ w, DrawnS w) (hTk : ∀ w, TakeDS w) (hTr : ∀ w n, TreesS w n) (hRs : ∀ w, ResolvedS w) (hIt : ∀ w, LawItemsS w) (hNo : ∀ w t, LawNodeS w t) (hSe : ∀ w, SecS w) (hNf : ∀ w, NewFixS w) : PySem.Challenge.rw_np0230_01.Holds := hd ⟨left, (by
  k_go0
  all_goals (try k_fold)
  (rename World => w)
  (rename Fr _ _ _ _ => F0)
  (rename News _ _ _ _ => N0)
  (rename Below _ _ _ _ => B0)
  (rename Frag.In _ _ => X0)
  (rename Top topProg _ _ _ _ _ => T0)
  (rename CodeHd _ (Prod.fst (526, 524)) _ => c526)
  (rename CodeHd _ (Prod.fst (531, 529)) _ => c531)
  (rename IntsAre _ _ => hI)
  (rename Heap.IsList (ghostOf _ _) _ _ => hL)
  (rename (_ < _ ∧ _ < _) => l0)
  (rename Obj.data _ = Data.cell (bindC _ _ _ (Str.ofString "row")) => d3)
  (rename Obj.data _ = Data.cell (bindC _ _ _ (Str.ofString "known")) => d2)
  (rename Obj.data _ = Data.cell (bindC _ _ _ (Str.ofString "table")) => d1)
  obtain ⟨L0, o3, o2, o1, hL0, e3, e2, e1, N0⟩ : ∃ L0 o3 o2 o1, L0 = _ ∧ o3.data = Data.cell none ∧ o2.data = Data.cell none ∧ o1.data = Data.cell none ∧ News _ L0 _ [(L0 + 1 + 1 + 1, o3), (L0 + 1 + 1, o2), (L0 + 1, o1), (524, tabObj #[]), (529, tabObj #[])] := ⟨_, _, _, _, rfl, d3, d2, d1, N0⟩
  clear d1 d2 d3
  subst hL0
  have l524 : @LT.lt Nat instLTNat 524 _ := l0.1
  have l529 : @LT.lt Nat instLTNat 529 _ := l0.2
  w_strict (
    walk_at "norm"
    (repeat' (first | ((fail_if_success (with_reducible (first | refine tW ?_ | refine tI ?_ | refine tF ?_ | refine tC ?_ | refine tX ?_ | refine tR 447 ?_ | refine tR 468 ?_ | refine tR 461 ?_ | refine tR 454 ?_ | refine tR 522 ?_ | refine tR 527 ?_ | refine tR 440 ?_ | refine tR 515 ?_ | refine tR 254 ?_ | show wpAny _ _ (call (Value.type "dict") _) _ _ _ | show wpAny _ _ (eval (PySem.Expr.ListComp _ _ _ _) _) _ _ _ | show wpAny _ _ (eval (PySem.Expr.Lambda _ _ _ _) _) _ _ _ | show wpAny _ _ (exec (PySem.Stmt.If _ _ _ _) _) _ _ _ | show wpAny _ _ (compareOp PySem.CmpOp.NotEq _ _) _ _ _ | show wpAny _ _ (storeName _ _ _) _ _ _ | refine tR 426 ?_ | refine tR 433 ?_ | refine tR 314 ?_ | refine tR 321 ?_ | refine tR 377 ?_ | refine tR 370 ?_ | refine tR 286 ?_ | refine tR 384 ?_ | refine tR 391 ?_ | refine tR 45 ?_ | refine tR 475 ?_ | refine tR 482 ?_ | refine tR 489 ?_ | refine tR 496 ?_ | refine tR 503 ?_ | refine tR 510 ?_))); first | ((with_reducible show WhileStep2 _ _ _ _ _ _ (Flow.ret _) _); dsimp only [WhileStep2]) | ((with_reducible show TurnP _ _ _ _ _ _ _ _ _ (Flow.ret _) _); dsimp only [TurnP]) | (k_unfold; (try dsimp only)) | (k_end; first | refine' next_q (by with_reducible assumption) ?_ | refine' ret_q (by with_reducible assumption) ?_ | refine' brk_q (by with_reducible assumption) ?_ | refine' cont_q (by with_reducible assumption) ?_) | (k_end; wrow_close) | walk1 | (dsimp only; walk1) | (leave1; walk_say "STEP leave1"; try dsimp only)) | fail "no step"))
    refine' hPo _ _ _ _ 302 7 _ _ _ _ _ _ _ _ _ _ _ _ _ _ _ _ _ _ _ B0 F0 X0 N0 T0 rfl hL hI (by omega) (by decide) (by decide) ?_
    intro _ S x y tx ty n h1 tk1 F1 N1 l1
    walk1
    (repeat' (first | ((fail_if_success (with_reducible (first | refine tW ?_ | refine tI ?_ | refine tF ?_ | refine tC ?_ | refine tX ?_ | refine tR 447 ?_ | refine tR 468 ?_ | refine tR 461 ?_ | refine tR 454 ?_ | refine tR 522 ?_ | refine tR 527 ?_ | refine tR 440 ?_ | refine tR 515 ?_ | refine tR 254 ?_ | show wpAny _ _ (call (Value.type "dict") _) _ _ _ | show wpAny _ _ (eval (PySem.Expr.ListComp _ _ _ _) _) _ _ _ | show wpAny _ _ (eval (PySem.Expr.Lambda _ _ _ _) _) _ _ _ | show wpAny _ _ (exec (PySem.Stmt.If _ _ _ _) _) _ _ _ | show wpAny _ _ (compareOp PySem.CmpOp.NotEq _ _) _ _ _ | show wpAny _ _ (storeName _ _ _) _ _ _ | refine tR 426 ?_ | refine tR 433 ?_ | refine tR 314 ?_ | refine tR 321 ?_ | refine tR 377 ?_ | refine tR 370 ?_ | refine tR 286 ?_ | refine tR 384 ?_ | refine tR 391 ?_ | refine tR 45 ?_ | refine tR 475 ?_ | refine tR 482 ?_ | refine tR 489 ?_ | refine tR 496 ?_ | refine tR 503 ?_ | refine tR 510 ?_))); first | ((with_reducible show WhileStep2 _ _ _ _ _ _ (Flow.ret _) _); dsimp only [WhileStep2]) | ((with_reducible show TurnP _ _ _ _ _ _ _ _ _ (Flow.ret _) _); dsimp only [TurnP]) | (k_unfold; (try dsimp only)) | (k_end; first | refine' next_q (by with_reducible assumption) ?_ | refine' ret_q (by with_reducible assumption) ?_ | refine' brk_q (by with_reducible assumption) ?_ | refine' cont_q (by with_reducible assumption) ?_) | (k_end; wrow_close) | walk1 | (dsimp only; walk1) | (leave1; walk_say "STEP leave1"; try dsimp only)) | fail "no step"))
    (rename Fr _ _ _ _ => F2)
    (rename News _ _ _ _ => N2)
    refine' hTa _ _ _ _ 302 7 _ _ _ _ _ _ _ _ _ _ _ _ _ _ S x y tx ty n _ _ B0 F2 X0 N2 (fun p hp => Nat.ne_of_lt (l1 p hp)) T0 rfl (by decide) (by decide) ?_
    intro _ rT T PT x2 y2 tx2 ty2 n2 h2 tk2 F3 N3 off3 fr3 hTb
    (repeat' (first | ((fail_if_success (with_reducible (first | refine tW ?_ | refine tI ?_ | refine tF ?_ | refine tC ?_ | refine tX ?_ | refine tR 447 ?_ | refine tR 468 ?_ | refine tR 461 ?_ | refine tR 454 ?_ | refine tR 522 ?_ | refine tR 527 ?_ | refine tR 440 ?_ | refine tR 515 ?_ | refine tR 254 ?_ | show wpAny _ _ (call (Value.type "dict") _) _ _ _ | show wpAny _ _ (eval (PySem.Expr.ListComp _ _ _ _) _) _ _ _ | show wpAny _ _ (eval (PySem.Expr.Lambda _ _ _ _) _) _ _ _ | show wpAny _ _ (exec (PySem.Stmt.If _ _ _ _) _) _ _ _ | show wpAny _ _ (compareOp PySem.CmpOp.NotEq _ _) _ _ _ | show wpAny _ _ (storeName _ _ _) _ _ _ | refine tR 426 ?_ | refine tR 433 ?_ | refine tR 314 ?_ | refine tR 321 ?_ | refine tR 377 ?_ | refine tR 370 ?_ | refine tR 286 ?_ | refine tR 384 ?_ | refine tR 391 ?_ | refine tR 45 ?_ | refine tR 475 ?_ | refine tR 482 ?_ | refine tR 489 ?_ | refine tR 496 ?_ | refine tR 503 ?_ | refine tR 510 ?_))); first | ((with_reducible show WhileStep2 _ _ _ _ _ _ (Flow.ret _) _); dsimp only [WhileStep2]) | ((with_reducible show TurnP _ _ _ _ _ _ _ _ _ (Flow.ret _) _); dsimp only [TurnP]) | (k_unfold; (try dsimp only)) | (k_end; first | refine' next_q (by with_reducible assumption) ?_ | refine' ret_q (by with_reducible assumption) ?_ | refine' brk_q (by with_reducible assumption) ?_ | refine' cont_q (by with_reducible assumption) ?_) | (k_end; wrow_close) | walk1 | (dsimp only; walk1) | (leave1; walk_say "STEP leave1"; try dsimp only)) | fail "no step"))
    (rename Fr _ _ _ _ => F4)
    (rename News _ _ _ _ => N4)
    refine' hDr _ _ _ _ 302 7 _ _ _ _ _ _ _ _ _ _ _ _ _ _ S x2 y2 tx2 ty2 n2 _ _ B0 F4 X0 N4 off3 T0 rfl (by decide) (by decide) ?_
    intro _ R x3 y3 vs row k tx3 ty3 n3 h3 tk3 F5 N5 hRS offR hits hvl hrl
    (repeat' (first | ((fail_if_success (with_reducible (first | refine tW ?_ | refine tI ?_ | refine tF ?_ | refine tC ?_ | refine tX ?_ | refine tR 447 ?_ | refine tR 468 ?_ | refine tR 461 ?_ | refine tR 454 ?_ | refine tR 522 ?_ | refine tR 527 ?_ | refine tR 440 ?_ | refine tR 515 ?_ | refine tR 254 ?_ | show wpAny _ _ (call (Value.type "dict") _) _ _ _ | show wpAny _ _ (eval (PySem.Expr.ListComp _ _ _ _) _) _ _ _ | show wpAny _ _ (eval (PySem.Expr.Lambda _ _ _ _) _) _ _ _ | show wpAny _ _ (exec (PySem.Stmt.If _ _ _ _) _) _ _ _ | show wpAny _ _ (compareOp PySem.CmpOp.NotEq _ _) _ _ _ | show wpAny _ _ (storeName _ _ _) _ _ _ | refine tR 426 ?_ | refine tR 433 ?_ | refine tR 314 ?_ | refine tR 321 ?_ | refine tR 377 ?_ | refine tR 370 ?_ | refine tR 286 ?_ | refine tR 384 ?_ | refine tR 391 ?_ | refine tR 45 ?_ | refine tR 475 ?_ | refine tR 482 ?_ | refine tR 489 ?_ | refine tR 496 ?_ | refine tR 503 ?_ | refine tR 510 ?_))); first | ((with_reducible show WhileStep2 _ _ _ _ _ _ (Flow.ret _) _); dsimp only [WhileStep2]) | ((with_reducible show TurnP _ _ _ _ _ _ _ _ _ (Flow.ret _) _); dsimp only [TurnP]) | (k_unfold; (try dsimp only)) | (k_end; first | refine' next_q (by with_reducible assumption) ?_ | refine' ret_q (by with_reducible assumption) ?_ | refine' brk_q (by with_reducible assumption) ?_ | refine' cont_q (by with_reducible assumption) ?_) | (k_end; wrow_close) | walk1 | (dsimp only; walk1) | (leave1; walk_say "STEP leave1"; try dsimp only)) | fail "no step"))
    refine el3 (id hTb) ?_
    rintro dT oT tvs ⟨rfl, hdT, -⟩
    (rename Fr _ _ _ _ => F6)
    (rename News _ _ _ _ => N6)
    refine' store_cell (o := o1) ((_, o3) :: (_, o2) :: (524, tabObj #[]) :: (529, tabObj #[]) :: (S, _) :: (R, _) :: PT) F6 N6 lw_sub1 ?off rfl e1 rfl rfl ?_
    (case off => exact off_cons (Nat.ne_of_gt (by omega)) (off_cons (Nat.ne_of_gt (by omega)) (off_cons (Nat.ne_of_lt (by omega)) (off_cons (Nat.ne_of_lt (by omega)) (off_cons (Nat.ne_of_gt (l1 _ (.tail _ (.tail _ (.head _))))) (off_cons (Ne.symm (offR _ (List.mem_append_right _ (.tail _ (.tail _ (.head _)))))) fun p hp => Ne.symm (fr3 p hp _ (.tail _ (.tail _ (.head _))))))))))
    intro h7 p1 F7 N7 e1'
    clear N6 F6
    (repeat' (first | ((fail_if_success (with_reducible (first | refine tW ?_ | refine tI ?_ | refine tF ?_ | refine tC ?_ | refine tX ?_ | refine tR 447 ?_ | refine tR 468 ?_ | refine tR 461 ?_ | refine tR 454 ?_ | refine tR 522 ?_ | refine tR 527 ?_ | refine tR 440 ?_ | refine tR 515 ?_ | refine tR 254 ?_ | show wpAny _ _ (call (Value.type "dict") _) _ _ _ | show wpAny _ _ (eval (PySem.Expr.ListComp _ _ _ _) _) _ _ _ | show wpAny _ _ (eval (PySem.Expr.Lambda _ _ _ _) _) _ _ _ | show wpAny _ _ (exec (PySem.Stmt.If _ _ _ _) _) _ _ _ | show wpAny _ _ (compareOp PySem.CmpOp.NotEq _ _) _ _ _ | show wpAny _ _ (storeName _ _ _) _ _ _ | refine tR 426 ?_ | refine tR 433 ?_ | refine tR 314 ?_ | refine tR 321 ?_ | refine tR 377 ?_ | refine tR 370 ?_ | refine tR 286 ?_ | refine tR 384 ?_ | refine tR 391 ?_ | refine tR 45 ?_ | refine tR 475 ?_ | refine tR 482 ?_ | refine tR 489 ?_ | refine tR 496 ?_ | refine tR 503 ?_ | refine tR 510 ?_))); first | ((with_reducible show WhileStep2 _ _ _ _ _ _ (Flow.ret _) _); dsimp only [WhileStep2]) | ((with_reducible show TurnP _ _ _ _ _ _ _ _ _ (Flow.ret _) _); dsimp only [TurnP]) | (k_unfold; (try dsimp only)) | (k_end; first | refine' next_q (by with_reducible assumption) ?_ | refine' ret_q (by with_reducible assumption) ?_ | refine' brk_q (by with_reducible assumption) ?_ | refine' cont_q (by with_reducible assumption) ?_) | (k_end; wrow_close) | walk1 | (dsimp only; walk1) | (leave1; walk_say "STEP leave1"; try dsimp only)) | fail "no step"))
    (rename Fr _ _ _ _ => F8)
    (rename News _ _ _ _ => N8)
    refine' store_cell (o := o3) ((_, p1) :: (_, o2) :: (524, tabObj #[]) :: (529, tabObj #[]) :: (S, _) :: (R, _) :: PT) F8 N8 lw_sub2 ?off rfl e3 rfl rfl ?_
    (case off => exact off_cons (Nat.ne_of_lt (by omega)) (off_cons (Nat.ne_of_lt (by omega)) (off_cons (Nat.ne_of_lt (by omega)) (off_cons (Nat.ne_of_lt (by omega)) (off_cons (Nat.ne_of_gt (l1 _ (.head _))) (off_cons (Ne.symm (offR _ (List.mem_append_right _ (.head _)))) fun p hp => Ne.symm (fr3 p hp _ (.head _))))))))
    intro h9 p3 F9 N9 e3'
    clear N8 F8
    (repeat' (first | ((fail_if_success (with_reducible (first | refine tW ?_ | refine tI ?_ | refine tF ?_ | refine tC ?_ | refine tX ?_ | refine tR 447 ?_ | refine tR 468 ?_ | refine tR 461 ?_ | refine tR 454 ?_ | refine tR 522 ?_ | refine tR 527 ?_ | refine tR 440 ?_ | refine tR 515 ?_ | refine tR 254 ?_ | show wpAny _ _ (call (Value.type "dict") _) _ _ _ | show wpAny _ _ (eval (PySem.Expr.ListComp _ _ _ _) _) _ _ _ | show wpAny _ _ (eval (PySem.Expr.Lambda _ _ _ _) _) _ _ _ | show wpAny _ _ (exec (PySem.Stmt.If _ _ _ _) _) _ _ _ | show wpAny _ _ (compareOp PySem.CmpOp.NotEq _ _) _ _ _ | show wpAny _ _ (storeName _ _ _) _ _ _ | refine tR 426 ?_ | refine tR 433 ?_ | refine tR 314 ?_ | refine tR 321 ?_ | refine tR 377 ?_ | refine tR 370 ?_ | refine tR 286 ?_ | refine tR 384 ?_ | refine tR 391 ?_ | refine tR 45 ?_ | refine tR 475 ?_ | refine tR 482 ?_ | refine tR 489 ?_ | refine tR 496 ?_ | refine tR 503 ?_ | refine tR 510 ?_))); first | ((with_reducible show WhileStep2 _ _ _ _ _ _ (Flow.ret _) _); dsimp only [WhileStep2]) | ((with_reducible show TurnP _ _ _ _ _ _ _ _ _ (Flow.ret _) _); dsimp only [TurnP]) | (k_unfold; (try dsimp only)) | (k_end; first | refine' next_q (by with_reducible assumption) ?_ | refine' ret_q (by with_reducible assumption) ?_ | refine' brk_q (by with_reducible assumption) ?_ | refine' cont_q (by with_reducible assumption) ?_) | (k_end; wrow_close) | walk1 | (dsimp only; walk1) | (leave1; walk_say "STEP leave1"; try dsimp only)) | fail "no step"))
    (rename Fr _ _ _ _ => F10)
    (rename News _ _ _ _ => N10)
    have N11 := nsub N10 lw_sub3
    clear N10
    obtain ⟨oc2, o524, o529, oS⟩ := lw_offs (p3 := p3) (p1 := p1) (oR := listOf vs.toArray k) l524 l529 l1 offR fr3 off3 hRS
    obtain ⟨M0, P0, hM0, hP0, kc3, kc1, kR, sPT, N12⟩ := abs_law N11
    rw [hP0] at oc2 o524 o529 oS
    clear N11
    refine ListComp_S F10 (by with_unfolding_all rfl) (by decide) (by rfl) (by decide) (by rfl) ?_
    walk1
    refine ⟨_, _, M0 ++ P0, rfl, by decide +kernel, rfl, F10, N12, by rw [sizeLine_eq]; decide +kernel, fun s₂ hs₂ => ?_⟩
    obtain ⟨g8, rfl⟩ := hs₂
    refine comp_rest (fun i ys Pi => Gr (M0 ++ P0) P0 Pi ∧ KnJ Pi T i ys) ?_ ⟨.refl, rfl, fun j v hv => by simp at hv⟩ ?_
    · rintro i ys Pi v I oI C oC D m₂ h tk E' hi ⟨hg, hJ⟩ hDD1 hC hx2 F13 N13 off13
      walk_at "norm"
      obtain ⟨c, u, hc, rfl⟩ := hDD1
      obtain ⟨hi3, hcs⟩ := nm_at hc
      rw [hcs] at hx2
      have hTb13 := hTb.mono fun p hp => hg.sub p (sPT p hp)
      have kc1p := hg.sub _ kc1
      (repeat' (first | ((fail_if_success (with_reducible (first | refine tW ?_ | refine tI ?_ | refine tF ?_ | refine tC ?_ | refine tX ?_ | refine tR 447 ?_ | refine tR 468 ?_ | refine tR 461 ?_ | refine tR 454 ?_ | refine tR 522 ?_ | refine tR 527 ?_ | refine tR 440 ?_ | refine tR 515 ?_ | refine tR 254 ?_ | show wpAny _ _ (call (Value.type "dict") _) _ _ _ | show wpAny _ _ (eval (PySem.Expr.ListComp _ _ _ _) _) _ _ _ | show wpAny _ _ (eval (PySem.Expr.Lambda _ _ _ _) _) _ _ _ | show wpAny _ _ (exec (PySem.Stmt.If _ _ _ _) _) _ _ _ | show wpAny _ _ (compareOp PySem.CmpOp.NotEq _ _) _ _ _ | show wpAny _ _ (storeName _ _ _) _ _ _ | refine tR 426 ?_ | refine tR 433 ?_ | refine tR 314 ?_ | refine tR 321 ?_ | refine tR 377 ?_ | refine tR 370 ?_ | refine tR 286 ?_ | refine tR 384 ?_ | refine tR 391 ?_ | refine tR 45 ?_ | refine tR 475 ?_ | refine tR 482 ?_ | refine tR 489 ?_ | refine tR 496 ?_ | refine tR 503 ?_ | refine tR 510 ?_))); first | ((with_reducible show WhileStep2 _ _ _ _ _ _ (Flow.ret _) _); dsimp only [WhileStep2]) | ((with_reducible show TurnP _ _ _ _ _ _ _ _ _ (Flow.ret _) _); dsimp only [TurnP]) | (k_unfold; (try dsimp only)) | (k_end; first | refine' next_q (by with_reducible assumption) ?_ | refine' ret_q (by with_reducible assumption) ?_ | refine' brk_q (by with_reducible assumption) ?_ | refine' cont_q (by with_reducible assumption) ?_) | (k_end; wrow_close) | walk1 | (dsimp only; walk1) | (leave1; walk_say "STEP leave1"; try dsimp only)) | fail "no step"))
      (rename Fr _ _ _ _ => F14)
      (rename News _ _ _ _ => N14)
      refine' (hNf _).use (dp := 302) (un := 7) ((I, oI) :: (C, oC) :: (D, LCg.lst ys) :: M0) Pi (T.get (nmAt i)) B0 F14 X0 N14 (fun p hp => hp) T0 rfl ⟨_, _, rfl⟩ (by decide) (by decide) ?_
      rintro r15 P15 h15 tk15 F15 N15 hs15 hf15 hfix
      (repeat' (first | ((fail_if_success (with_reducible (first | refine tW ?_ | refine tI ?_ | refine tF ?_ | refine tC ?_ | refine tX ?_ | refine tR 447 ?_ | refine tR 468 ?_ | refine tR 461 ?_ | refine tR 454 ?_ | refine tR 522 ?_ | refine tR 527 ?_ | refine tR 440 ?_ | refine tR 515 ?_ | refine tR 254 ?_ | show wpAny _ _ (call (Value.type "dict") _) _ _ _ | show wpAny _ _ (eval (PySem.Expr.ListComp _ _ _ _) _) _ _ _ | show wpAny _ _ (eval (PySem.Expr.Lambda _ _ _ _) _) _ _ _ | show wpAny _ _ (exec (PySem.Stmt.If _ _ _ _) _) _ _ _ | show wpAny _ _ (compareOp PySem.CmpOp.NotEq _ _) _ _ _ | show wpAny _ _ (storeName _ _ _) _ _ _ | refine tR 426 ?_ | refine tR 433 ?_ | refine tR 314 ?_ | refine tR 321 ?_ | refine tR 377 ?_ | refine tR 370 ?_ | refine tR 286 ?_ | refine tR 384 ?_ | refine tR 391 ?_ | refine tR 45 ?_ | refine tR 475 ?_ | refine tR 482 ?_ | refine tR 489 ?_ | refine tR 496 ?_ | refine tR 503 ?_ | refine tR 510 ?_))); first | ((with_reducible show WhileStep2 _ _ _ _ _ _ (Flow.ret _) _); dsimp only [WhileStep2]) | ((with_reducible show TurnP _ _ _ _ _ _ _ _ _ (Flow.ret _) _); dsimp only [TurnP]) | (k_unfold; (try dsimp only)) | (k_end; first | refine' next_q (by with_reducible assumption) ?_ | refine' ret_q (by with_reducible assumption) ?_ | refine' brk_q (by with_reducible assumption) ?_ | refine' cont_q (by with_reducible assumption) ?_) | (k_end; wrow_close) | walk1 | (dsimp only; walk1) | (leave1; walk_say "STEP leave1"; try dsimp only)) | fail "no step"))
      (rename News _ _ _ _ => N16)
      (rename (∀ p : Addr × Obj, p ∈ _ → p.1 < _) => l16)
      exact ⟨_, _, M0 ++ ((_, _) :: P15), rfl, by assumption, nsub N16 kn_sub, off3_new (off3_fresh off13 hf15) (l16 (I, oI) (.head _)) (l16 (C, oC) (.tail _ (.head _))) (l16 (D, LCg.lst ys) (.tail _ (.tail _ (.head _)))), trivial, _, rfl, (hg.call hs15 (fr_drop3 hf15)).alloc (fun p hp => l16 p (.tail _ (.tail _ (.tail _ hp)))), (hJ.mono fun p hp => .tail _ (hs15 p hp)).snoc (.head _) (hfix.mono fun p hp => .tail _ hp)⟩
    · rintro ys Pi ⟨hg, hJ⟩
      rintro D h tk F17 N17 off17
      replace hJ : KnJ Pi T 3 ys := (show (Str.ofString "abc").cps.size = 3 by decide +kernel) ▸ hJ
      clear N12
      (repeat' (first | ((fail_if_success (with_reducible (first | refine tW ?_ | refine tI ?_ | refine tF ?_ | refine tC ?_ | refine tX ?_ | refine tR 447 ?_ | refine tR 468 ?_ | refine tR 461 ?_ | refine tR 454 ?_ | refine tR 522 ?_ | refine tR 527 ?_ | refine tR 440 ?_ | refine tR 515 ?_ | refine tR 254 ?_ | show wpAny _ _ (call (Value.type "dict") _) _ _ _ | show wpAny _ _ (eval (PySem.Expr.ListComp _ _ _ _) _) _ _ _ | show wpAny _ _ (eval (PySem.Expr.Lambda _ _ _ _) _) _ _ _ | show wpAny _ _ (exec (PySem.Stmt.If _ _ _ _) _) _ _ _ | show wpAny _ _ (compareOp PySem.CmpOp.NotEq _ _) _ _ _ | show wpAny _ _ (storeName _ _ _) _ _ _ | refine tR 426 ?_ | refine tR 433 ?_ | refine tR 314 ?_ | refine tR 321 ?_ | refine tR 377 ?_ | refine tR 370 ?_ | refine tR 286 ?_ | refine tR 384 ?_ | refine tR 391 ?_ | refine tR 45 ?_ | refine tR 475 ?_ | refine tR 482 ?_ | refine tR 489 ?_ | refine tR 496 ?_ | refine tR 503 ?_ | refine tR 510 ?_))); first | ((with_reducible show WhileStep2 _ _ _ _ _ _ (Flow.ret _) _); dsimp only [WhileStep2]) | ((with_reducible show TurnP _ _ _ _ _ _ _ _ _ (Flow.ret _) _); dsimp only [TurnP]) | (k_unfold; (try dsimp only)) | (k_end; first | refine' next_q (by with_reducible assumption) ?_ | refine' ret_q (by with_reducible assumption) ?_ | refine' brk_q (by with_reducible assumption) ?_ | refine' cont_q (by with_reducible assumption) ?_) | (k_end; wrow_close) | walk1 | (dsimp only; walk1) | (leave1; walk_say "STEP leave1"; try dsimp only)) | fail "no step"))
      (rename Fr _ _ _ _ => F17)
      (rename News _ _ _ _ => N17)
      refine known_dict (M := M0) (Pi := Pi) rfl F17 N17 T0 hJ fun d od h18 tk18 F18 N18 l18 hkn => ?_
      (repeat' (first | ((fail_if_success (with_reducible (first | refine tW ?_ | refine tI ?_ | refine tF ?_ | refine tC ?_ | refine tX ?_ | refine tR 447 ?_ | refine tR 468 ?_ | refine tR 461 ?_ | refine tR 454 ?_ | refine tR 522 ?_ | refine tR 527 ?_ | refine tR 440 ?_ | refine tR 515 ?_ | refine tR 254 ?_ | show wpAny _ _ (call (Value.type "dict") _) _ _ _ | show wpAny _ _ (eval (PySem.Expr.ListComp _ _ _ _) _) _ _ _ | show wpAny _ _ (eval (PySem.Expr.Lambda _ _ _ _) _) _ _ _ | show wpAny _ _ (exec (PySem.Stmt.If _ _ _ _) _) _ _ _ | show wpAny _ _ (compareOp PySem.CmpOp.NotEq _ _) _ _ _ | show wpAny _ _ (storeName _ _ _) _ _ _ | refine tR 426 ?_ | refine tR 433 ?_ | refine tR 314 ?_ | refine tR 321 ?_ | refine tR 377 ?_ | refine tR 370 ?_ | refine tR 286 ?_ | refine tR 384 ?_ | refine tR 391 ?_ | refine tR 45 ?_ | refine tR 475 ?_ | refine tR 482 ?_ | refine tR 489 ?_ | refine tR 496 ?_ | refine tR 503 ?_ | refine tR 510 ?_))); first | ((with_reducible show WhileStep2 _ _ _ _ _ _ (Flow.ret _) _); dsimp only [WhileStep2]) | ((with_reducible show TurnP _ _ _ _ _ _ _ _ _ (Flow.ret _) _); dsimp only [TurnP]) | (k_unfold; (try dsimp only)) | (k_end; first | refine' next_q (by with_reducible assumption) ?_ | refine' ret_q (by with_reducible assumption) ?_ | refine' brk_q (by with_reducible assumption) ?_ | refine' cont_q (by with_reducible assumption) ?_) | (k_end; wrow_close) | walk1 | (dsimp only; walk1) | (leave1; walk_say "STEP leave1"; try dsimp only)) | fail "no step"))
      (rename Fr _ _ _ _ => F18)
      (rename News _ _ _ _ => N18)
      have oc2' := grow_off oc2 hg (by rw [← hM0]; exact .head _)
      have o524' := grow_off o524 hg (by rw [← hM0]; exact .tail _ (.head _))
      have o529' := grow_off o529 hg (by rw [← hM0]; exact .tail _ (.tail _ (.head _)))
      have oS' := grow_off oS hg (by rw [← hM0]; exact .tail _ (.tail _ (.tail _ (.head _))))
      have kc3' := hg.sub _ kc3
      have kc1' := hg.sub _ kc1
      have kR' := hg.sub _ kR
      have hTb' := hTb.mono fun p hp => hg.sub p (sPT p hp)
      have ld2 := l18 _ (List.mem_append_left _ (by rw [← hM0]; exact .head _))
      have ldS := l18 _ (List.mem_append_left _ (by rw [← hM0]; exact .tail _ (.tail _ (.tail _ (.head _)))))
      subst hM0
      refine' store_cell (o := o2) ((524, tabObj #[]) :: (529, tabObj #[]) :: (S, _) :: (d, od) :: Pi) F18 N18 lw_sub4 ?off rfl e2 rfl rfl ?_
      (case off => exact off_cons (Nat.ne_of_lt (by omega)) (off_cons (Nat.ne_of_lt (by omega)) (off_cons (Nat.ne_of_gt (l1 _ (.tail _ (.head _)))) (off_cons (Nat.ne_of_gt ld2) oc2'))))
      intro h19 p2 F19 N19 e2'
      clear N18 F18 N17 hP0 l18 off17 hg oc2 o524 o529 oS kc3 kc1 kR sPT
      have N20 := nsub N19 lw_sub5
      clear N19
      (repeat' (first | ((fail_if_success (with_reducible (first | refine tW ?_ | refine tI ?_ | refine tF ?_ | refine tC ?_ | refine tX ?_ | refine tR 447 ?_ | refine tR 468 ?_ | refine tR 461 ?_ | refine tR 454 ?_ | refine tR 522 ?_ | refine tR 527 ?_ | refine tR 440 ?_ | refine tR 515 ?_ | refine tR 254 ?_ | show wpAny _ _ (call (Value.type "dict") _) _ _ _ | show wpAny _ _ (eval (PySem.Expr.ListComp _ _ _ _) _) _ _ _ | show wpAny _ _ (eval (PySem.Expr.Lambda _ _ _ _) _) _ _ _ | show wpAny _ _ (exec (PySem.Stmt.If _ _ _ _) _) _ _ _ | show wpAny _ _ (compareOp PySem.CmpOp.NotEq _ _) _ _ _ | show wpAny _ _ (storeName _ _ _) _ _ _ | refine tR 426 ?_ | refine tR 433 ?_ | refine tR 314 ?_ | refine tR 321 ?_ | refine tR 377 ?_ | refine tR 370 ?_ | refine tR 286 ?_ | refine tR 384 ?_ | refine tR 391 ?_ | refine tR 45 ?_ | refine tR 475 ?_ | refine tR 482 ?_ | refine tR 489 ?_ | refine tR 496 ?_ | refine tR 503 ?_ | refine tR 510 ?_))); first | ((with_reducible show WhileStep2 _ _ _ _ _ _ (Flow.ret _) _); dsimp only [WhileStep2]) | ((with_reducible show TurnP _ _ _ _ _ _ _ _ _ (Flow.ret _) _); dsimp only [TurnP]) | (k_unfold; (try dsimp only)) | (k_end; first | refine' next_q (by with_reducible assumption) ?_ | refine' ret_q (by with_reducible assumption) ?_ | refine' brk_q (by with_reducible assumption) ?_ | refine' cont_q (by with_reducible assumption) ?_) | (k_end; wrow_close) | walk1 | (dsimp only; walk1) | (leave1; walk_say "STEP leave1"; try dsimp only)) | fail "no step"))
      (rename Fr _ _ _ _ => F21)
      (rename News _ _ _ _ => N21)
      obtain ⟨oo529, oo524, ooS⟩ := lw_offs2 (p2 := p2) (od := od) l524 l529 (l1 _ (.tail _ (.head _))) (l1 (524, tabObj #[]) (.tail _ (.tail _ (.tail _ (.head _))))) (l1 (529, tabObj #[]) (.tail _ (.tail _ (.tail _ (.tail _ (.head _)))))) ldS o529' o524' oS'
      obtain ⟨P1, hP1, q1, qd, q2, N22⟩ := abs_law2 N21
      rw [hP1] at oo529 oo524 ooS
      clear N21 hP1
      refine' (hTr _ 11).use (dp := 302) (un := 7) [(529, tabObj #[]), (524, tabObj #[]), (S, listOf #[.int x3 tx3, .int y3 ty3] n3)] P1 (T, row) B0 F21 X0 N22 sub0 T0 rfl ⟨_, _, rfl, hTb'.mono q2, ⟨R, vs, _, rfl, q2 _ kR', hits⟩, hvl, hrl, Nat.le_refl _⟩ (by show 302 + (14 + row.length) < 1000; omega) (by show 7 + 8 * (14 + row.length) < 9900; omega) ?_
      rintro r21 P21 h21 tk21 F22 N22 hs21 hf21 hDD1
      walk_at "norm"
      refine el3 hDD1 ?_
      clear hDD1
      rintro la tvs2 tn2 ⟨rfl, hla, htrs⟩
      dsimp only at htrs
      rw [law_due hvl hrl] at htrs
      have kc2 := hs21 _ q1
      have kc1 := hs21 _ (q2 _ kc1')
      have kc3 := hs21 _ (q2 _ kc3')
      have kR := hs21 _ (q2 _ kR')
      have hTb21 := hTb'.mono fun p hp => hs21 p (q2 p hp)
      have hkn21 := hkn.mono fun p hp => hs21 p (qd p hp)
      have g21 : Gr ([(529, tabObj #[]), (524, tabObj #[]), (S, listOf #[Value.int x3 tx3, Value.int y3 ty3] n3)] ++ P1) P1 P21 := ⟨hs21, hf21⟩
      have o529 := grow_off oo529 g21 (.head _)
      have o524 := grow_off oo524 g21 (.tail _ (.head _))
      have oS := grow_off ooS g21 (.tail _ (.tail _ (.head _)))
      clear F21 hs21 hf21 hkn o529' o524' oS' oc2' kc3' kc1' kR' hTb' g21 oo529 oo524 ooS q1 q2 qd
      (repeat' (first | ((fail_if_success (with_reducible (first | refine tW ?_ | refine tI ?_ | refine tF ?_ | refine tC ?_ | refine tX ?_ | refine tR 447 ?_ | refine tR 468 ?_ | refine tR 461 ?_ | refine tR 454 ?_ | refine tR 522 ?_ | refine tR 527 ?_ | refine tR 440 ?_ | refine tR 515 ?_ | refine tR 254 ?_ | show wpAny _ _ (call (Value.type "dict") _) _ _ _ | show wpAny _ _ (eval (PySem.Expr.ListComp _ _ _ _) _) _ _ _ | show wpAny _ _ (eval (PySem.Expr.Lambda _ _ _ _) _) _ _ _ | show wpAny _ _ (exec (PySem.Stmt.If _ _ _ _) _) _ _ _ | show wpAny _ _ (compareOp PySem.CmpOp.NotEq _ _) _ _ _ | show wpAny _ _ (storeName _ _ _) _ _ _ | refine tR 426 ?_ | refine tR 433 ?_ | refine tR 314 ?_ | refine tR 321 ?_ | refine tR 377 ?_ | refine tR 370 ?_ | refine tR 286 ?_ | refine tR 384 ?_ | refine tR 391 ?_ | refine tR 45 ?_ | refine tR 475 ?_ | refine tR 482 ?_ | refine tR 489 ?_ | refine tR 496 ?_ | refine tR 503 ?_ | refine tR 510 ?_))); first | ((with_reducible show WhileStep2 _ _ _ _ _ _ (Flow.ret _) _); dsimp only [WhileStep2]) | ((with_reducible show TurnP _ _ _ _ _ _ _ _ _ (Flow.ret _) _); dsimp only [TurnP]) | (k_unfold; (try dsimp only)) | (k_end; first | refine' next_q (by with_reducible assumption) ?_ | refine' ret_q (by with_reducible assumption) ?_ | refine' brk_q (by with_reducible assumption) ?_ | refine' cont_q (by with_reducible assumption) ?_) | (k_end; wrow_close) | walk1 | (dsimp only; walk1) | (leave1; walk_say "STEP leave1"; try dsimp only)) | fail "no step"))
      walk1
      (repeat' (first | ((fail_if_success (with_reducible (first | refine tW ?_ | refine tI ?_ | refine tF ?_ | refine tC ?_ | refine tX ?_ | refine tR 447 ?_ | refine tR 468 ?_ | refine tR 461 ?_ | refine tR 454 ?_ | refine tR 522 ?_ | refine tR 527 ?_ | refine tR 440 ?_ | refine tR 515 ?_ | refine tR 254 ?_ | show wpAny _ _ (call (Value.type "dict") _) _ _ _ | show wpAny _ _ (eval (PySem.Expr.ListComp _ _ _ _) _) _ _ _ | show wpAny _ _ (eval (PySem.Expr.Lambda _ _ _ _) _) _ _ _ | show wpAny _ _ (exec (PySem.Stmt.If _ _ _ _) _) _ _ _ | show wpAny _ _ (compareOp PySem.CmpOp.NotEq _ _) _ _ _ | show wpAny _ _ (storeName _ _ _) _ _ _ | refine tR 426 ?_ | refine tR 433 ?_ | refine tR 314 ?_ | refine tR 321 ?_ | refine tR 377 ?_ | refine tR 370 ?_ | refine tR 286 ?_ | refine tR 384 ?_ | refine tR 391 ?_ | refine tR 45 ?_ | refine tR 475 ?_ | refine tR 482 ?_ | refine tR 489 ?_ | refine tR 496 ?_ | refine tR 503 ?_ | refine tR 510 ?_))); first | ((with_reducible show WhileStep2 _ _ _ _ _ _ (Flow.ret _) _); dsimp only [WhileStep2]) | ((with_reducible show TurnP _ _ _ _ _ _ _ _ _ (Flow.ret _) _); dsimp only [TurnP]) | (k_unfold; (try dsimp only)) | (k_end; first | refine' next_q (by with_reducible assumption) ?_ | refine' ret_q (by with_reducible assumption) ?_ | refine' brk_q (by with_reducible assumption) ?_ | refine' cont_q (by with_reducible assumption) ?_) | (k_end; wrow_close) | walk1 | (dsimp only; walk1) | (leave1; walk_say "STEP leave1"; try dsimp only)) | fail "no step"))
      (rename Fr _ _ _ _ => F23)
      (rename News _ _ _ _ => N23)
      (rename Heap => h23)
      (rename Shared => s1)
      refine cut_at (fun s' => ∃ tk', s' = { s1 with heap := h23, toks := tk' }) ?_ ?_
      · walk1
        cases hb : boundF T row [] with
        | none =>
          rw [hb] at htrs
          cases htrs
          (repeat' (first | ((fail_if_success (with_reducible (first | refine tW ?_ | refine tI ?_ | refine tF ?_ | refine tC ?_ | refine tX ?_ | refine tR 447 ?_ | refine tR 468 ?_ | refine tR 461 ?_ | refine tR 454 ?_ | refine tR 522 ?_ | refine tR 527 ?_ | refine tR 440 ?_ | refine tR 515 ?_ | refine tR 254 ?_ | show wpAny _ _ (call (Value.type "dict") _) _ _ _ | show wpAny _ _ (eval (PySem.Expr.ListComp _ _ _ _) _) _ _ _ | show wpAny _ _ (eval (PySem.Expr.Lambda _ _ _ _) _) _ _ _ | show wpAny _ _ (exec (PySem.Stmt.If _ _ _ _) _) _ _ _ | show wpAny _ _ (compareOp PySem.CmpOp.NotEq _ _) _ _ _ | show wpAny _ _ (storeName _ _ _) _ _ _ | refine tR 426 ?_ | refine tR 433 ?_ | refine tR 314 ?_ | refine tR 321 ?_ | refine tR 377 ?_ | refine tR 370 ?_ | refine tR 286 ?_ | refine tR 384 ?_ | refine tR 391 ?_ | refine tR 45 ?_ | refine tR 475 ?_ | refine tR 482 ?_ | refine tR 489 ?_ | refine tR 496 ?_ | refine tR 503 ?_ | refine tR 510 ?_))); first | ((with_reducible show WhileStep2 _ _ _ _ _ _ (Flow.ret _) _); dsimp only [WhileStep2]) | ((with_reducible show TurnP _ _ _ _ _ _ _ _ _ (Flow.ret _) _); dsimp only [TurnP]) | (k_unfold; (try dsimp only)) | (k_end; first | refine' next_q (by with_reducible assumption) ?_ | refine' ret_q (by with_reducible assumption) ?_ | refine' brk_q (by with_reducible assumption) ?_ | refine' cont_q (by with_reducible assumption) ?_) | (k_end; wrow_close) | walk1 | (dsimp only; walk1) | (leave1; walk_say "STEP leave1"; try dsimp only)) | fail "no step"))
          exact ⟨rfl, _, rfl⟩
        | some t =>
          rw [hb] at htrs
          have htrs : TrsAre P21 tvs2 [t] := htrs
          cases htrs with
          | @cons v _ vs2 _ htv hnil =>
          cases hnil
          (repeat' (first | ((fail_if_success (with_reducible (first | refine tW ?_ | refine tI ?_ | refine tF ?_ | refine tC ?_ | refine tX ?_ | refine tR 447 ?_ | refine tR 468 ?_ | refine tR 461 ?_ | refine tR 454 ?_ | refine tR 522 ?_ | refine tR 527 ?_ | refine tR 440 ?_ | refine tR 515 ?_ | refine tR 254 ?_ | show wpAny _ _ (call (Value.type "dict") _) _ _ _ | show wpAny _ _ (eval (PySem.Expr.ListComp _ _ _ _) _) _ _ _ | show wpAny _ _ (eval (PySem.Expr.Lambda _ _ _ _) _) _ _ _ | show wpAny _ _ (exec (PySem.Stmt.If _ _ _ _) _) _ _ _ | show wpAny _ _ (compareOp PySem.CmpOp.NotEq _ _) _ _ _ | show wpAny _ _ (storeName _ _ _) _ _ _ | refine tR 426 ?_ | refine tR 433 ?_ | refine tR 314 ?_ | refine tR 321 ?_ | refine tR 377 ?_ | refine tR 370 ?_ | refine tR 286 ?_ | refine tR 384 ?_ | refine tR 391 ?_ | refine tR 45 ?_ | refine tR 475 ?_ | refine tR 482 ?_ | refine tR 489 ?_ | refine tR 496 ?_ | refine tR 503 ?_ | refine tR 510 ?_))); first | ((with_reducible show WhileStep2 _ _ _ _ _ _ (Flow.ret _) _); dsimp only [WhileStep2]) | ((with_reducible show TurnP _ _ _ _ _ _ _ _ _ (Flow.ret _) _); dsimp only [TurnP]) | (k_unfold; (try dsimp only)) | (k_end; first | refine' next_q (by with_reducible assumption) ?_ | refine' ret_q (by with_reducible assumption) ?_ | refine' brk_q (by with_reducible assumption) ?_ | refine' cont_q (by with_reducible assumption) ?_) | (k_end; wrow_close) | walk1 | (dsimp only; walk1) | (leave1; walk_say "STEP leave1"; try dsimp only)) | fail "no step"))
          exact ⟨rfl, _, rfl⟩
      · rintro s' ⟨tk23, rfl⟩
        (repeat' (first | ((fail_if_success (with_reducible (first | refine tW ?_ | refine tI ?_ | refine tF ?_ | refine tC ?_ | refine tX ?_ | refine tR 447 ?_ | refine tR 468 ?_ | refine tR 461 ?_ | refine tR 454 ?_ | refine tR 522 ?_ | refine tR 527 ?_ | refine tR 440 ?_ | refine tR 515 ?_ | refine tR 254 ?_ | show wpAny _ _ (call (Value.type "dict") _) _ _ _ | show wpAny _ _ (eval (PySem.Expr.ListComp _ _ _ _) _) _ _ _ | show wpAny _ _ (eval (PySem.Expr.Lambda _ _ _ _) _) _ _ _ | show wpAny _ _ (exec (PySem.Stmt.If _ _ _ _) _) _ _ _ | show wpAny _ _ (compareOp PySem.CmpOp.NotEq _ _) _ _ _ | show wpAny _ _ (storeName _ _ _) _ _ _ | refine tR 426 ?_ | refine tR 433 ?_ | refine tR 314 ?_ | refine tR 321 ?_ | refine tR 377 ?_ | refine tR 370 ?_ | refine tR 286 ?_ | refine tR 384 ?_ | refine tR 391 ?_ | refine tR 45 ?_ | refine tR 475 ?_ | refine tR 482 ?_ | refine tR 489 ?_ | refine tR 496 ?_ | refine tR 503 ?_ | refine tR 510 ?_))); first | ((with_reducible show WhileStep2 _ _ _ _ _ _ (Flow.ret _) _); dsimp only [WhileStep2]) | ((with_reducible show TurnP _ _ _ _ _ _ _ _ _ (Flow.ret _) _); dsimp only [TurnP]) | (k_unfold; (try dsimp only)) | (k_end; first | refine' next_q (by with_reducible assumption) ?_ | refine' ret_q (by with_reducible assumption) ?_ | refine' brk_q (by with_reducible assumption) ?_ | refine' cont_q (by with_reducible assumption) ?_) | (k_end; wrow_close) | walk1 | (dsimp only; walk1) | (leave1; walk_say "STEP leave1"; try dsimp only)) | fail "no step"))
        (rename Fr _ _ _ _ => F24)
        (rename News _ _ _ _ => N24)
        refine' kla_eval ?d0 ?_
        (case d0 => exact rfl)
        refine' kla_nest (ps := #[]) F24 N24 T0 ?C rfl (.head (off_cons (by decide) (off_cons (Nat.ne_of_gt (l1 (529, tabObj #[]) (.tail _ (.tail _ (.tail _ (.tail _ (.head _))))))) o529))) ?t ?n ?cl (fun f cc occ vsc tc ctc h25 tk25 F25 N25 w1 w2 lc lf => ?_)
        (case C => exact c531)
        (case t => kn_triples)
        (case n => kn_among)
        (case cl => exact rfl)
        (dsimp only at N25)
        clear N24 F24
        obtain ⟨fo, hfo, N26⟩ := name_obj N25
        clear N25
        (repeat' (first | ((fail_if_success (with_reducible (first | refine tW ?_ | refine tI ?_ | refine tF ?_ | refine tC ?_ | refine tX ?_ | refine tR 447 ?_ | refine tR 468 ?_ | refine tR 461 ?_ | refine tR 454 ?_ | refine tR 522 ?_ | refine tR 527 ?_ | refine tR 440 ?_ | refine tR 515 ?_ | refine tR 254 ?_ | show wpAny _ _ (call (Value.type "dict") _) _ _ _ | show wpAny _ _ (eval (PySem.Expr.ListComp _ _ _ _) _) _ _ _ | show wpAny _ _ (eval (PySem.Expr.Lambda _ _ _ _) _) _ _ _ | show wpAny _ _ (exec (PySem.Stmt.If _ _ _ _) _) _ _ _ | show wpAny _ _ (compareOp PySem.CmpOp.NotEq _ _) _ _ _ | show wpAny _ _ (storeName _ _ _) _ _ _ | refine tR 426 ?_ | refine tR 433 ?_ | refine tR 314 ?_ | refine tR 321 ?_ | refine tR 377 ?_ | refine tR 370 ?_ | refine tR 286 ?_ | refine tR 384 ?_ | refine tR 391 ?_ | refine tR 45 ?_ | refine tR 475 ?_ | refine tR 482 ?_ | refine tR 489 ?_ | refine tR 496 ?_ | refine tR 503 ?_ | refine tR 510 ?_))); first | ((with_reducible show WhileStep2 _ _ _ _ _ _ (Flow.ret _) _); dsimp only [WhileStep2]) | ((with_reducible show TurnP _ _ _ _ _ _ _ _ _ (Flow.ret _) _); dsimp only [TurnP]) | (k_unfold; (try dsimp only)) | (k_end; first | refine' next_q (by with_reducible assumption) ?_ | refine' ret_q (by with_reducible assumption) ?_ | refine' brk_q (by with_reducible assumption) ?_ | refine' cont_q (by with_reducible assumption) ?_) | (k_end; wrow_close) | walk1 | (dsimp only; walk1) | (leave1; walk_say "STEP leave1"; try dsimp only)) | fail "no step"))
        have hdeed : RSpec w f (D := Unit) (fun _ => 115) (fun P vs _ => vs = [] ∧ ((f, fo) ∈ P ∧ (cc, occ) ∈ P ∧ (s1.heap.objs.size + 1 + 1, p2) ∈ P ∧ (s1.heap.objs.size + 1 + 1 + 1, p3) ∈ P ∧ RowIn P (.ref R) row ∧ KnIn w P (.ref d) T)) (fun P r _ => ∃ t, boundF T row [] = some t ∧ NodeIn P r t.nt ∧ t.size ≤ 11) (fun _ => boundF T row [] = none) := by
          clear N26 F25 lc
          unfold RSpec
          rintro mean2 mg2 mb2 dp2 un2 gd2 cn2 cs2 a2 ccd2 cl2 outer2 A2 base2 hb2 Lq mq Mq Pq sq vsq ⟨⟩ Qq Eq Bq Fq Xq Nq TTq hkq hDD1 hd hu hret hrz
          walk_at "norm"
          obtain ⟨rfl, hf, hcc, hc2, hc3, hrow, hkn⟩ := hDD1
          subst hfo
          refine wpAny_call ?_
          refine' kla_code Bq Fq Xq Nq TTq ?kA ?kF ?kK (List.mem_append_right _ hf) (codeRec_news Nq (List.mem_append_right _ hcc) w1 w2) ?k8 ?k9 ?kB ?_ ?c2 ?c3 ?c4 ?c5
          (case kA => exact rfl)
          (case kF => exact rfl)
          (case kK => assumption)
          (case k8 => ktr_room)
          (case k9 => exact rfl)
          (case c5 => decide)
          (case kB => exact locs rfl)
          (case c2 => exact rfl)
          (case c3 => exact rfl)
          (case c4 => exact rfl)
          intro g3 L3 h3 FG3 F3 N3 B3 X3 T3
          (try dsimp only)
          (try k_fold)
          (repeat' (first | ((fail_if_success (with_reducible (first | refine tW ?_ | refine tI ?_ | refine tF ?_ | refine tC ?_ | refine tX ?_ | refine tR 447 ?_ | refine tR 468 ?_ | refine tR 461 ?_ | refine tR 454 ?_ | refine tR 522 ?_ | refine tR 527 ?_ | refine tR 440 ?_ | refine tR 515 ?_ | refine tR 254 ?_ | show wpAny _ _ (call (Value.type "dict") _) _ _ _ | show wpAny _ _ (eval (PySem.Expr.ListComp _ _ _ _) _) _ _ _ | show wpAny _ _ (eval (PySem.Expr.Lambda _ _ _ _) _) _ _ _ | show wpAny _ _ (exec (PySem.Stmt.If _ _ _ _) _) _ _ _ | show wpAny _ _ (compareOp PySem.CmpOp.NotEq _ _) _ _ _ | show wpAny _ _ (storeName _ _ _) _ _ _ | refine tR 426 ?_ | refine tR 433 ?_ | refine tR 314 ?_ | refine tR 321 ?_ | refine tR 377 ?_ | refine tR 370 ?_ | refine tR 286 ?_ | refine tR 384 ?_ | refine tR 391 ?_ | refine tR 45 ?_ | refine tR 475 ?_ | refine tR 482 ?_ | refine tR 489 ?_ | refine tR 496 ?_ | refine tR 503 ?_ | refine tR 510 ?_))); first | ((with_reducible show WhileStep2 _ _ _ _ _ _ (Flow.ret _) _); dsimp only [WhileStep2]) | ((with_reducible show TurnP _ _ _ _ _ _ _ _ _ (Flow.ret _) _); dsimp only [TurnP]) | (k_unfold; (try dsimp only)) | (k_end; first | refine' next_q (by with_reducible assumption) ?_ | refine' ret_q (by with_reducible assumption) ?_ | refine' brk_q (by with_reducible assumption) ?_ | refine' cont_q (by with_reducible assumption) ?_) | (k_end; wrow_close) | walk1 | (dsimp only; walk1) | (leave1; walk_say "STEP leave1"; try dsimp only)) | fail "no step"))
          (rename Fr _ _ _ _ => F4)
          (rename News _ _ _ _ => N4)
          refine' (hIt w).use Mq Pq row (by k_asm) F4 (by k_asm) N4 sub0 (by k_asm) rfl ⟨_, rfl, hrow, hrl⟩ (by ktr_room) (by ktr_units) ?_
          rintro r7 P7 h7 tk7 F7 N7 hs7 hf7 hits
          have hc2' := hs7 _ hc2
          have hc3' := hs7 _ hc3
          clear F4 N4
          (repeat' (first | ((fail_if_success (with_reducible (first | refine tW ?_ | refine tI ?_ | refine tF ?_ | refine tC ?_ | refine tX ?_ | refine tR 447 ?_ | refine tR 468 ?_ | refine tR 461 ?_ | refine tR 454 ?_ | refine tR 522 ?_ | refine tR 527 ?_ | refine tR 440 ?_ | refine tR 515 ?_ | refine tR 254 ?_ | show wpAny _ _ (call (Value.type "dict") _) _ _ _ | show wpAny _ _ (eval (PySem.Expr.ListComp _ _ _ _) _) _ _ _ | show wpAny _ _ (eval (PySem.Expr.Lambda _ _ _ _) _) _ _ _ | show wpAny _ _ (exec (PySem.Stmt.If _ _ _ _) _) _ _ _ | show wpAny _ _ (compareOp PySem.CmpOp.NotEq _ _) _ _ _ | show wpAny _ _ (storeName _ _ _) _ _ _ | refine tR 426 ?_ | refine tR 433 ?_ | refine tR 314 ?_ | refine tR 321 ?_ | refine tR 377 ?_ | refine tR 370 ?_ | refine tR 286 ?_ | refine tR 384 ?_ | refine tR 391 ?_ | refine tR 45 ?_ | refine tR 475 ?_ | refine tR 482 ?_ | refine tR 489 ?_ | refine tR 496 ?_ | refine tR 503 ?_ | refine tR 510 ?_))); first | ((with_reducible show WhileStep2 _ _ _ _ _ _ (Flow.ret _) _); dsimp only [WhileStep2]) | ((with_reducible show TurnP _ _ _ _ _ _ _ _ _ (Flow.ret _) _); dsimp only [TurnP]) | (k_unfold; (try dsimp only)) | (k_end; first | refine' next_q (by with_reducible assumption) ?_ | refine' ret_q (by with_reducible assumption) ?_ | refine' brk_q (by with_reducible assumption) ?_ | refine' cont_q (by with_reducible assumption) ?_) | (k_end; wrow_close) | walk1 | (dsimp only; walk1) | (leave1; walk_say "STEP leave1"; try dsimp only)) | fail "no step"))
          (rename Fr _ _ _ _ => F8)
          (rename News _ _ _ _ => N8)
          refine' (hRs w).use Mq P7 (T, row) (by k_asm) F8 (by k_asm) N8 sub0 (by k_asm) rfl ⟨_, _, rfl, hits, hkn.mono hs7, hvl, hrl⟩ (by ktr_room) (by ktr_units) ?_ ?_
          · rintro r9 P9 h9 tk9 F9 N9 hs9 hf9 hDD1
            walk_at "norm"
            obtain ⟨t, hrun, hn⟩ := hDD1
            (repeat' (first | ((fail_if_success (with_reducible (first | refine tW ?_ | refine tI ?_ | refine tF ?_ | refine tC ?_ | refine tX ?_ | refine tR 447 ?_ | refine tR 468 ?_ | refine tR 461 ?_ | refine tR 454 ?_ | refine tR 522 ?_ | refine tR 527 ?_ | refine tR 440 ?_ | refine tR 515 ?_ | refine tR 254 ?_ | show wpAny _ _ (call (Value.type "dict") _) _ _ _ | show wpAny _ _ (eval (PySem.Expr.ListComp _ _ _ _) _) _ _ _ | show wpAny _ _ (eval (PySem.Expr.Lambda _ _ _ _) _) _ _ _ | show wpAny _ _ (exec (PySem.Stmt.If _ _ _ _) _) _ _ _ | show wpAny _ _ (compareOp PySem.CmpOp.NotEq _ _) _ _ _ | show wpAny _ _ (storeName _ _ _) _ _ _ | refine tR 426 ?_ | refine tR 433 ?_ | refine tR 314 ?_ | refine tR 321 ?_ | refine tR 377 ?_ | refine tR 370 ?_ | refine tR 286 ?_ | refine tR 384 ?_ | refine tR 391 ?_ | refine tR 45 ?_ | refine tR 475 ?_ | refine tR 482 ?_ | refine tR 489 ?_ | refine tR 496 ?_ | refine tR 503 ?_ | refine tR 510 ?_))); first | ((with_reducible show WhileStep2 _ _ _ _ _ _ (Flow.ret _) _); dsimp only [WhileStep2]) | ((with_reducible show TurnP _ _ _ _ _ _ _ _ _ (Flow.ret _) _); dsimp only [TurnP]) | (k_unfold; (try dsimp only)) | (k_end; first | refine' next_q (by with_reducible assumption) ?_ | refine' ret_q (by with_reducible assumption) ?_ | refine' brk_q (by with_reducible assumption) ?_ | refine' cont_q (by with_reducible assumption) ?_) | (k_end; wrow_close) | walk1 | (dsimp only; walk1) | (leave1; walk_say "STEP leave1"; try dsimp only)) | fail "no step"))
            exact hret _ P9 _ _ (by assumption) (by assumption) (fun p hp => hs9 p (hs7 p hp)) (Gr.refl.call hs7 hf7 |>.call hs9 hf9).fr ⟨t, hrun, hn, by have := yld_size t; rw [(bound_s (.inl rfl) hvl hrun).2.1] at this; omega⟩
          · intro e9 h9 G9 tk9 hF9 hR9 hU9 hz9
            refine' leave_onT ?K rfl ?F hR9 hU9 ?_
            (case K => assumption)
            (case F => assumption)
            intro h11 R11 U11
            exact hrz _ _ _ _ (by assumption) (RaisedSN.less (by assumption) (fun p hp => (List.mem_append.mp hp).elim (fun hp => List.mem_append_left _ hp) (fun hp => List.mem_append_right _ (hs7 _ hp)))) (by assumption) hz9
        have htold := told_spec w f hdeed (fun P d h => by subst hfo; exact ⟨_, _, _, _, h.1⟩)
        have lc9 := lc (529, tabObj #[]) (.head _)
        have lc4 := lc (524, tabObj #[]) (.tail _ (.head _))
        have lcS := lc (S, listOf #[.int x3 tx3, .int y3 ty3] n3) (.tail _ (.tail _ (.head _)))
        clear hdeed hfo lc
        obtain ⟨tb, P25, hP25, qf, qc, q25, N27⟩ := abs_told (R := [(524, tabObj #[]), (S, listOf #[.int x3 tx3, .int y3 ty3] n3)]) (P := P21) N26
        clear N26
        have a529 : ∀ p ∈ P25, p.1 ≠ 529 := by rw [← hP25]; exact off_cons (Nat.ne_of_gt (Nat.lt_trans lc9 lf)) (off_cons (Nat.ne_of_gt lc9) o529)
        have a524 : ∀ p ∈ P25, p.1 ≠ 524 := by rw [← hP25]; exact off_cons (Nat.ne_of_gt (Nat.lt_trans lc4 lf)) (off_cons (Nat.ne_of_gt lc4) o524)
        have aS : ∀ p ∈ P25, p.1 ≠ S := by rw [← hP25]; exact off_cons (Nat.ne_of_gt (Nat.lt_trans lcS lf)) (off_cons (Nat.ne_of_gt lcS) oS)
        refine' TSpec.use htold (dp := 302) (un := 7) [(529, tabObj tb), (524, tabObj #[]), (S, listOf #[.int x3 tx3, .int y3 ty3] n3)] P25 () B0 F25 X0 N27 sub0 T0 X0 T0 ktsDicts_nil rfl ⟨rfl, qf, qc, q25 _ kc2, q25 _ kc3, ⟨R, vs, _, rfl, q25 _ kR, hits⟩, hkn21.mono q25⟩ (by decide) (by decide) ?_
        rintro g3 r28 P28 h28 tk28 KT3 B3 X3 T3 D3 F28 N28 hs28 hf28 hpost28
        dsimp only at hpost28
        have g28 : Gr ([(529, tabObj tb), (524, tabObj #[]), (S, listOf #[Value.int x3 tx3, Value.int y3 ty3] n3)] ++ P25) P25 P28 := ⟨hs28, hf28⟩
        have b529 := grow_off a529 g28 (.head _)
        have b524 := grow_off a524 g28 (.tail _ (.head _))
        have bS := grow_off aS g28 (.tail _ (.tail _ (.head _)))
        have j1 := hs28 _ (q25 _ kc1)
        have j2 := hs28 _ (q25 _ kc2)
        have j3 := hs28 _ (q25 _ kc3)
        have jR := hs28 _ (q25 _ kR)
        have jla := hs28 _ (q25 _ hla)
        have htrs28 := htrs.mono fun p hp => hs28 p (q25 p hp)
        have hTb28 := hTb21.mono fun p hp => hs28 p (q25 p hp)
        have hkn28 := hkn21.mono fun p hp => hs28 p (q25 p hp)
        clear N27 F25 htold a529 a524 aS o529 o524 oS qf qc q25 hP25 hs28 hf28 g28 kc1 kc2 kc3 kR hla htrs hTb21 hkn21
        (repeat' (first | ((fail_if_success (with_reducible (first | refine tW ?_ | refine tI ?_ | refine tF ?_ | refine tC ?_ | refine tX ?_ | refine tR 447 ?_ | refine tR 468 ?_ | refine tR 461 ?_ | refine tR 454 ?_ | refine tR 522 ?_ | refine tR 527 ?_ | refine tR 440 ?_ | refine tR 515 ?_ | refine tR 254 ?_ | show wpAny _ _ (call (Value.type "dict") _) _ _ _ | show wpAny _ _ (eval (PySem.Expr.ListComp _ _ _ _) _) _ _ _ | show wpAny _ _ (eval (PySem.Expr.Lambda _ _ _ _) _) _ _ _ | show wpAny _ _ (exec (PySem.Stmt.If _ _ _ _) _) _ _ _ | show wpAny _ _ (compareOp PySem.CmpOp.NotEq _ _) _ _ _ | show wpAny _ _ (storeName _ _ _) _ _ _ | refine tR 426 ?_ | refine tR 433 ?_ | refine tR 314 ?_ | refine tR 321 ?_ | refine tR 377 ?_ | refine tR 370 ?_ | refine tR 286 ?_ | refine tR 384 ?_ | refine tR 391 ?_ | refine tR 45 ?_ | refine tR 475 ?_ | refine tR 482 ?_ | refine tR 489 ?_ | refine tR 496 ?_ | refine tR 503 ?_ | refine tR 510 ?_))); first | ((with_reducible show WhileStep2 _ _ _ _ _ _ (Flow.ret _) _); dsimp only [WhileStep2]) | ((with_reducible show TurnP _ _ _ _ _ _ _ _ _ (Flow.ret _) _); dsimp only [TurnP]) | (k_unfold; (try dsimp only)) | (k_end; first | refine' next_q (by with_reducible assumption) ?_ | refine' ret_q (by with_reducible assumption) ?_ | refine' brk_q (by with_reducible assumption) ?_ | refine' cont_q (by with_reducible assumption) ?_) | (k_end; wrow_close) | walk1 | (dsimp only; walk1) | (leave1; walk_say "STEP leave1"; try dsimp only)) | fail "no step"))
        walk1
        (repeat' (first | ((fail_if_success (with_reducible (first | refine tW ?_ | refine tI ?_ | refine tF ?_ | refine tC ?_ | refine tX ?_ | refine tR 447 ?_ | refine tR 468 ?_ | refine tR 461 ?_ | refine tR 454 ?_ | refine tR 522 ?_ | refine tR 527 ?_ | refine tR 440 ?_ | refine tR 515 ?_ | refine tR 254 ?_ | show wpAny _ _ (call (Value.type "dict") _) _ _ _ | show wpAny _ _ (eval (PySem.Expr.ListComp _ _ _ _) _) _ _ _ | show wpAny _ _ (eval (PySem.Expr.Lambda _ _ _ _) _) _ _ _ | show wpAny _ _ (exec (PySem.Stmt.If _ _ _ _) _) _ _ _ | show wpAny _ _ (compareOp PySem.CmpOp.NotEq _ _) _ _ _ | show wpAny _ _ (storeName _ _ _) _ _ _ | refine tR 426 ?_ | refine tR 433 ?_ | refine tR 314 ?_ | refine tR 321 ?_ | refine tR 377 ?_ | refine tR 370 ?_ | refine tR 286 ?_ | refine tR 384 ?_ | refine tR 391 ?_ | refine tR 45 ?_ | refine tR 475 ?_ | refine tR 482 ?_ | refine tR 489 ?_ | refine tR 496 ?_ | refine tR 503 ?_ | refine tR 510 ?_))); first | ((with_reducible show WhileStep2 _ _ _ _ _ _ (Flow.ret _) _); dsimp only [WhileStep2]) | ((with_reducible show TurnP _ _ _ _ _ _ _ _ _ (Flow.ret _) _); dsimp only [TurnP]) | (k_unfold; (try dsimp only)) | (k_end; first | refine' next_q (by with_reducible assumption) ?_ | refine' ret_q (by with_reducible assumption) ?_ | refine' brk_q (by with_reducible assumption) ?_ | refine' cont_q (by with_reducible assumption) ?_) | (k_end; wrow_close) | walk1 | (dsimp only; walk1) | (leave1; walk_say "STEP leave1"; try dsimp only)) | fail "no step"))
        (rename Fr _ _ _ _ => F29)
        (rename News _ _ _ _ => N29)
        obtain ⟨m9, hm9, F30⟩ := name_map F29
        clear F29
        obtain ⟨M3, hM3⟩ : ∃ M3, [(529, tabObj tb), (524, tabObj #[]), (S, listOf #[Value.int x3 tx3, Value.int y3 ty3] n3)] = M3 := ⟨_, rfl⟩
        rw [hM3] at N29
        refine cut_at (fun s' => ∃ h' tk' P', s' = { s1 with heap := h', toks := tk' } ∧ Fr g3 s1.heap.objs.size h' m9 ∧ News g3 s1.heap.objs.size h' (M3 ++ P') ∧ Gr (M3 ++ P28) P28 P') ?_ ?_
        · subst hm9
          walk1
          cases hl : boundF T row [] with
          | none =>
            rw [hl] at htrs28 hpost28
            cases htrs28
            obtain rfl : r28 = Value.none := hpost28
            (repeat' (first | ((fail_if_success (with_reducible (first | refine tW ?_ | refine tI ?_ | refine tF ?_ | refine tC ?_ | refine tX ?_ | refine tR 447 ?_ | refine tR 468 ?_ | refine tR 461 ?_ | refine tR 454 ?_ | refine tR 522 ?_ | refine tR 527 ?_ | refine tR 440 ?_ | refine tR 515 ?_ | refine tR 254 ?_ | show wpAny _ _ (call (Value.type "dict") _) _ _ _ | show wpAny _ _ (eval (PySem.Expr.ListComp _ _ _ _) _) _ _ _ | show wpAny _ _ (eval (PySem.Expr.Lambda _ _ _ _) _) _ _ _ | show wpAny _ _ (exec (PySem.Stmt.If _ _ _ _) _) _ _ _ | show wpAny _ _ (compareOp PySem.CmpOp.NotEq _ _) _ _ _ | show wpAny _ _ (storeName _ _ _) _ _ _ | refine tR 426 ?_ | refine tR 433 ?_ | refine tR 314 ?_ | refine tR 321 ?_ | refine tR 377 ?_ | refine tR 370 ?_ | refine tR 286 ?_ | refine tR 384 ?_ | refine tR 391 ?_ | refine tR 45 ?_ | refine tR 475 ?_ | refine tR 482 ?_ | refine tR 489 ?_ | refine tR 496 ?_ | refine tR 503 ?_ | refine tR 510 ?_))); first | ((with_reducible show WhileStep2 _ _ _ _ _ _ (Flow.ret _) _); dsimp only [WhileStep2]) | ((with_reducible show TurnP _ _ _ _ _ _ _ _ _ (Flow.ret _) _); dsimp only [TurnP]) | (k_unfold; (try dsimp only)) | (k_end; first | refine' next_q (by with_reducible assumption) ?_ | refine' ret_q (by with_reducible assumption) ?_ | refine' brk_q (by with_reducible assumption) ?_ | refine' cont_q (by with_reducible assumption) ?_) | (k_end; wrow_close) | walk1 | (dsimp only; walk1) | (leave1; walk_say "STEP leave1"; try dsimp only)) | fail "no step"))
            walk1
            (repeat' (first | ((fail_if_success (with_reducible (first | refine tW ?_ | refine tI ?_ | refine tF ?_ | refine tC ?_ | refine tX ?_ | refine tR 447 ?_ | refine tR 468 ?_ | refine tR 461 ?_ | refine tR 454 ?_ | refine tR 522 ?_ | refine tR 527 ?_ | refine tR 440 ?_ | refine tR 515 ?_ | refine tR 254 ?_ | show wpAny _ _ (call (Value.type "dict") _) _ _ _ | show wpAny _ _ (eval (PySem.Expr.ListComp _ _ _ _) _) _ _ _ | show wpAny _ _ (eval (PySem.Expr.Lambda _ _ _ _) _) _ _ _ | show wpAny _ _ (exec (PySem.Stmt.If _ _ _ _) _) _ _ _ | show wpAny _ _ (compareOp PySem.CmpOp.NotEq _ _) _ _ _ | show wpAny _ _ (storeName _ _ _) _ _ _ | refine tR 426 ?_ | refine tR 433 ?_ | refine tR 314 ?_ | refine tR 321 ?_ | refine tR 377 ?_ | refine tR 370 ?_ | refine tR 286 ?_ | refine tR 384 ?_ | refine tR 391 ?_ | refine tR 45 ?_ | refine tR 475 ?_ | refine tR 482 ?_ | refine tR 489 ?_ | refine tR 496 ?_ | refine tR 503 ?_ | refine tR 510 ?_))); first | ((with_reducible show WhileStep2 _ _ _ _ _ _ (Flow.ret _) _); dsimp only [WhileStep2]) | ((with_reducible show TurnP _ _ _ _ _ _ _ _ _ (Flow.ret _) _); dsimp only [TurnP]) | (k_unfold; (try dsimp only)) | (k_end; first | refine' next_q (by with_reducible assumption) ?_ | refine' ret_q (by with_reducible assumption) ?_ | refine' brk_q (by with_reducible assumption) ?_ | refine' cont_q (by with_reducible assumption) ?_) | (k_end; wrow_close) | walk1 | (dsimp only; walk1) | (leave1; walk_say "STEP leave1"; try dsimp only)) | fail "no step"))
            walk1
            (repeat' (first | ((fail_if_success (with_reducible (first | refine tW ?_ | refine tI ?_ | refine tF ?_ | refine tC ?_ | refine tX ?_ | refine tR 447 ?_ | refine tR 468 ?_ | refine tR 461 ?_ | refine tR 454 ?_ | refine tR 522 ?_ | refine tR 527 ?_ | refine tR 440 ?_ | refine tR 515 ?_ | refine tR 254 ?_ | show wpAny _ _ (call (Value.type "dict") _) _ _ _ | show wpAny _ _ (eval (PySem.Expr.ListComp _ _ _ _) _) _ _ _ | show wpAny _ _ (eval (PySem.Expr.Lambda _ _ _ _) _) _ _ _ | show wpAny _ _ (exec (PySem.Stmt.If _ _ _ _) _) _ _ _ | show wpAny _ _ (compareOp PySem.CmpOp.NotEq _ _) _ _ _ | show wpAny _ _ (storeName _ _ _) _ _ _ | refine tR 426 ?_ | refine tR 433 ?_ | refine tR 314 ?_ | refine tR 321 ?_ | refine tR 377 ?_ | refine tR 370 ?_ | refine tR 286 ?_ | refine tR 384 ?_ | refine tR 391 ?_ | refine tR 45 ?_ | refine tR 475 ?_ | refine tR 482 ?_ | refine tR 489 ?_ | refine tR 496 ?_ | refine tR 503 ?_ | refine tR 510 ?_))); first | ((with_reducible show WhileStep2 _ _ _ _ _ _ (Flow.ret _) _); dsimp only [WhileStep2]) | ((with_reducible show TurnP _ _ _ _ _ _ _ _ _ (Flow.ret _) _); dsimp only [TurnP]) | (k_unfold; (try dsimp only)) | (k_end; first | refine' next_q (by with_reducible assumption) ?_ | refine' ret_q (by with_reducible assumption) ?_ | refine' brk_q (by with_reducible assumption) ?_ | refine' cont_q (by with_reducible assumption) ?_) | (k_end; wrow_close) | walk1 | (dsimp only; walk1) | (leave1; walk_say "STEP leave1"; try dsimp only)) | fail "no step"))
            exact ⟨rfl, _, _, P28, rfl, by assumption, nsub (by assumption) (fun p hp => .tail _ hp), .refl⟩
          | some t =>
            rw [hl] at htrs28 hpost28
            have hpost : DatIn P28 r28 t.dat := hpost28
            clear hpost28
            have htrs : TrsAre P28 tvs2 [t] := htrs28
            clear htrs28
            cases htrs with
            | @cons v _ vs2 _ htv hnil =>
            cases hnil
            (repeat' (first | ((fail_if_success (with_reducible (first | refine tW ?_ | refine tI ?_ | refine tF ?_ | refine tC ?_ | refine tX ?_ | refine tR 447 ?_ | refine tR 468 ?_ | refine tR 461 ?_ | refine tR 454 ?_ | refine tR 522 ?_ | refine tR 527 ?_ | refine tR 440 ?_ | refine tR 515 ?_ | refine tR 254 ?_ | show wpAny _ _ (call (Value.type "dict") _) _ _ _ | show wpAny _ _ (eval (PySem.Expr.ListComp _ _ _ _) _) _ _ _ | show wpAny _ _ (eval (PySem.Expr.Lambda _ _ _ _) _) _ _ _ | show wpAny _ _ (exec (PySem.Stmt.If _ _ _ _) _) _ _ _ | show wpAny _ _ (compareOp PySem.CmpOp.NotEq _ _) _ _ _ | show wpAny _ _ (storeName _ _ _) _ _ _ | refine tR 426 ?_ | refine tR 433 ?_ | refine tR 314 ?_ | refine tR 321 ?_ | refine tR 377 ?_ | refine tR 370 ?_ | refine tR 286 ?_ | refine tR 384 ?_ | refine tR 391 ?_ | refine tR 45 ?_ | refine tR 475 ?_ | refine tR 482 ?_ | refine tR 489 ?_ | refine tR 496 ?_ | refine tR 503 ?_ | refine tR 510 ?_))); first | ((with_reducible show WhileStep2 _ _ _ _ _ _ (Flow.ret _) _); dsimp only [WhileStep2]) | ((with_reducible show TurnP _ _ _ _ _ _ _ _ _ (Flow.ret _) _); dsimp only [TurnP]) | (k_unfold; (try dsimp only)) | (k_end; first | refine' next_q (by with_reducible assumption) ?_ | refine' ret_q (by with_reducible assumption) ?_ | refine' brk_q (by with_reducible assumption) ?_ | refine' cont_q (by with_reducible assumption) ?_) | (k_end; wrow_close) | walk1 | (dsimp only; walk1) | (leave1; walk_say "STEP leave1"; try dsimp only)) | fail "no step"))
            refine ne_snoc (xs := []) (v := v) (News.isList (by assumption) (.tail _ (List.mem_append_right _ jla))) (News.isList (by assumption) (.head _)) (by show 7 + 64 < 9900; decide) ?_
            have hsz : t.size ≤ 11 := by have := yld_size t; rw [(bound_s (.inl rfl) hvl hl).2.1] at this; omega
            (repeat' (first | ((fail_if_success (with_reducible (first | refine tW ?_ | refine tI ?_ | refine tF ?_ | refine tC ?_ | refine tX ?_ | refine tR 447 ?_ | refine tR 468 ?_ | refine tR 461 ?_ | refine tR 454 ?_ | refine tR 522 ?_ | refine tR 527 ?_ | refine tR 440 ?_ | refine tR 515 ?_ | refine tR 254 ?_ | show wpAny _ _ (call (Value.type "dict") _) _ _ _ | show wpAny _ _ (eval (PySem.Expr.ListComp _ _ _ _) _) _ _ _ | show wpAny _ _ (eval (PySem.Expr.Lambda _ _ _ _) _) _ _ _ | show wpAny _ _ (exec (PySem.Stmt.If _ _ _ _) _) _ _ _ | show wpAny _ _ (compareOp PySem.CmpOp.NotEq _ _) _ _ _ | show wpAny _ _ (storeName _ _ _) _ _ _ | refine tR 426 ?_ | refine tR 433 ?_ | refine tR 314 ?_ | refine tR 321 ?_ | refine tR 377 ?_ | refine tR 370 ?_ | refine tR 286 ?_ | refine tR 384 ?_ | refine tR 391 ?_ | refine tR 45 ?_ | refine tR 475 ?_ | refine tR 482 ?_ | refine tR 489 ?_ | refine tR 496 ?_ | refine tR 503 ?_ | refine tR 510 ?_))); first | ((with_reducible show WhileStep2 _ _ _ _ _ _ (Flow.ret _) _); dsimp only [WhileStep2]) | ((with_reducible show TurnP _ _ _ _ _ _ _ _ _ (Flow.ret _) _); dsimp only [TurnP]) | (k_unfold; (try dsimp only)) | (k_end; first | refine' next_q (by with_reducible assumption) ?_ | refine' ret_q (by with_reducible assumption) ?_ | refine' brk_q (by with_reducible assumption) ?_ | refine' cont_q (by with_reducible assumption) ?_) | (k_end; wrow_close) | walk1 | (dsimp only; walk1) | (leave1; walk_say "STEP leave1"; try dsimp only)) | fail "no step"))
            (rename Fr _ _ _ _ => F12)
            (rename News _ _ _ _ => N12)
            refine' (hNo w t).use (dp := 302) (un := 7) ((_, _) :: M3) P28 () B3 F12 X3 N12 (fun p hp => hp) T3 rfl ⟨_, rfl, htv⟩ (by show 302 + (5 + t.size) < 1000; omega) (by show 7 + 8 * (5 + t.size) < 9900; omega) ?_
            rintro r14 P14 h14 tk14 F14 N14 hs14 hf14 hdat
            dsimp only
            refine dat_ne N14 hpost (fun p hp => List.mem_append_right _ (hs14 _ hp)) hdat (fun p hp => List.mem_append_right _ hp) hsz (by show 7 + 64 < 9900; decide) ?_
            (repeat' (first | ((fail_if_success (with_reducible (first | refine tW ?_ | refine tI ?_ | refine tF ?_ | refine tC ?_ | refine tX ?_ | refine tR 447 ?_ | refine tR 468 ?_ | refine tR 461 ?_ | refine tR 454 ?_ | refine tR 522 ?_ | refine tR 527 ?_ | refine tR 440 ?_ | refine tR 515 ?_ | refine tR 254 ?_ | show wpAny _ _ (call (Value.type "dict") _) _ _ _ | show wpAny _ _ (eval (PySem.Expr.ListComp _ _ _ _) _) _ _ _ | show wpAny _ _ (eval (PySem.Expr.Lambda _ _ _ _) _) _ _ _ | show wpAny _ _ (exec (PySem.Stmt.If _ _ _ _) _) _ _ _ | show wpAny _ _ (compareOp PySem.CmpOp.NotEq _ _) _ _ _ | show wpAny _ _ (storeName _ _ _) _ _ _ | refine tR 426 ?_ | refine tR 433 ?_ | refine tR 314 ?_ | refine tR 321 ?_ | refine tR 377 ?_ | refine tR 370 ?_ | refine tR 286 ?_ | refine tR 384 ?_ | refine tR 391 ?_ | refine tR 45 ?_ | refine tR 475 ?_ | refine tR 482 ?_ | refine tR 489 ?_ | refine tR 496 ?_ | refine tR 503 ?_ | refine tR 510 ?_))); first | ((with_reducible show WhileStep2 _ _ _ _ _ _ (Flow.ret _) _); dsimp only [WhileStep2]) | ((with_reducible show TurnP _ _ _ _ _ _ _ _ _ (Flow.ret _) _); dsimp only [TurnP]) | (k_unfold; (try dsimp only)) | (k_end; first | refine' next_q (by with_reducible assumption) ?_ | refine' ret_q (by with_reducible assumption) ?_ | refine' brk_q (by with_reducible assumption) ?_ | refine' cont_q (by with_reducible assumption) ?_) | (k_end; wrow_close) | walk1 | (dsimp only; walk1) | (leave1; walk_say "STEP leave1"; try dsimp only)) | fail "no step"))
            exact ⟨rfl, _, _, P14, rfl, by assumption, nsub (by assumption) (fun p hp => .tail _ hp), ⟨hs14, fun p hp => (hf14 p hp).imp id fun q r hr => q r (.tail _ hr)⟩⟩
        · rintro s' hDD1
          walk_at "norm"
          refine el3 hDD1 ?_
          clear hDD1
          rintro h31 tk31 P31 ⟨rfl, F31, N31, g31⟩
          subst hm9
          subst hM3
          have j1' := g31.sub _ j1
          have j2' := g31.sub _ j2
          have j3' := g31.sub _ j3
          have c524 := grow_off b524 g31 (.tail _ (.head _))
          have cS := grow_off bS g31 (.tail _ (.tail _ (.head _)))
          have jR' := g31.sub _ jR
          have hTb31 := hTb28.mono g31.sub
          have hkn31 := hkn28.mono g31.sub
          clear j1 j2 j3 b524 bS b529 jR jla hTb28 hkn28 g31 htrs28 hpost28
          (repeat' (first | ((fail_if_success (with_reducible (first | refine tW ?_ | refine tI ?_ | refine tF ?_ | refine tC ?_ | refine tX ?_ | refine tR 447 ?_ | refine tR 468 ?_ | refine tR 461 ?_ | refine tR 454 ?_ | refine tR 522 ?_ | refine tR 527 ?_ | refine tR 440 ?_ | refine tR 515 ?_ | refine tR 254 ?_ | show wpAny _ _ (call (Value.type "dict") _) _ _ _ | show wpAny _ _ (eval (PySem.Expr.ListComp _ _ _ _) _) _ _ _ | show wpAny _ _ (eval (PySem.Expr.Lambda _ _ _ _) _) _ _ _ | show wpAny _ _ (exec (PySem.Stmt.If _ _ _ _) _) _ _ _ | show wpAny _ _ (compareOp PySem.CmpOp.NotEq _ _) _ _ _ | show wpAny _ _ (storeName _ _ _) _ _ _ | refine tR 426 ?_ | refine tR 433 ?_ | refine tR 314 ?_ | refine tR 321 ?_ | refine tR 377 ?_ | refine tR 370 ?_ | refine tR 286 ?_ | refine tR 384 ?_ | refine tR 391 ?_ | refine tR 45 ?_ | refine tR 475 ?_ | refine tR 482 ?_ | refine tR 489 ?_ | refine tR 496 ?_ | refine tR 503 ?_ | refine tR 510 ?_))); first | ((with_reducible show WhileStep2 _ _ _ _ _ _ (Flow.ret _) _); dsimp only [WhileStep2]) | ((with_reducible show TurnP _ _ _ _ _ _ _ _ _ (Flow.ret _) _); dsimp only [TurnP]) | (k_unfold; (try dsimp only)) | (k_end; first | refine' next_q (by with_reducible assumption) ?_ | refine' ret_q (by with_reducible assumption) ?_ | refine' brk_q (by with_reducible assumption) ?_ | refine' cont_q (by with_reducible assumption) ?_) | (k_end; wrow_close) | walk1 | (dsimp only; walk1) | (leave1; walk_say "STEP leave1"; try dsimp only)) | fail "no step"))
          (rename Fr _ _ _ _ => F32)
          (rename News _ _ _ _ => N32)
          refine' hTk w _ _ _ 302 7 _ _ _ _ _ _ _ _ _ _ _ _ ((529, tabObj tb) :: (524, tabObj #[]) :: P31) _ S x3 y3 tx3 ty3 n3 4 _ _ _ B3 F32 X3 (nsub N32 lw_sub6) (off_cons (Nat.ne_of_lt (l1 (529, tabObj #[]) (.tail _ (.tail _ (.tail _ (.tail _ (.head _))))))) (off_cons (Nat.ne_of_lt (l1 (524, tabObj #[]) (.tail _ (.tail _ (.tail _ (.head _)))))) cS)) T3 rfl (by decide) (by decide) (by decide) (by decide) ?_
          intro _ dd x4 y4 td tx4 ty4 n4 h4 tk4 F33 N33 ge0 lt4
          clear F32 N32
          (repeat' (first | ((fail_if_success (with_reducible (first | refine tW ?_ | refine tI ?_ | refine tF ?_ | refine tC ?_ | refine tX ?_ | refine tR 447 ?_ | refine tR 468 ?_ | refine tR 461 ?_ | refine tR 454 ?_ | refine tR 522 ?_ | refine tR 527 ?_ | refine tR 440 ?_ | refine tR 515 ?_ | refine tR 254 ?_ | show wpAny _ _ (call (Value.type "dict") _) _ _ _ | show wpAny _ _ (eval (PySem.Expr.ListComp _ _ _ _) _) _ _ _ | show wpAny _ _ (eval (PySem.Expr.Lambda _ _ _ _) _) _ _ _ | show wpAny _ _ (exec (PySem.Stmt.If _ _ _ _) _) _ _ _ | show wpAny _ _ (compareOp PySem.CmpOp.NotEq _ _) _ _ _ | show wpAny _ _ (storeName _ _ _) _ _ _ | refine tR 426 ?_ | refine tR 433 ?_ | refine tR 314 ?_ | refine tR 321 ?_ | refine tR 377 ?_ | refine tR 370 ?_ | refine tR 286 ?_ | refine tR 384 ?_ | refine tR 391 ?_ | refine tR 45 ?_ | refine tR 475 ?_ | refine tR 482 ?_ | refine tR 489 ?_ | refine tR 496 ?_ | refine tR 503 ?_ | refine tR 510 ?_))); first | ((with_reducible show WhileStep2 _ _ _ _ _ _ (Flow.ret _) _); dsimp only [WhileStep2]) | ((with_reducible show TurnP _ _ _ _ _ _ _ _ _ (Flow.ret _) _); dsimp only [TurnP]) | (k_unfold; (try dsimp only)) | (k_end; first | refine' next_q (by with_reducible assumption) ?_ | refine' ret_q (by with_reducible assumption) ?_ | refine' brk_q (by with_reducible assumption) ?_ | refine' cont_q (by with_reducible assumption) ?_) | (k_end; wrow_close) | walk1 | (dsimp only; walk1) | (leave1; walk_say "STEP leave1"; try dsimp only)) | fail "no step"))
          obtain ⟨xo, hxo, hne⟩ := dr_item ge0 lt4
          clear ge0 lt4
          rw [hxo]
          (rename Fr _ _ _ _ => F34)
          (rename News _ _ _ _ => N34)
          refine' hSe w _ _ _ 302 7 _ _ _ _ _ _ _ _ _ _ _ _ [(529, tabObj tb), (S, _)] P31 _ T row xo _ _ _ _ _ _ B3 F34 X3 (nsub N34 lw_sub7) (off_cons (by show (529 : Nat) ≠ 524; decide) (off_cons (Nat.ne_of_gt (l1 (524, tabObj #[]) (.tail _ (.tail _ (.tail _ (.head _)))))) c524)) T3 X0 T0 c526 D3 rfl ⟨R, vs, _, rfl, jR', hits⟩ hkn31 hTb31 hvl hrl hne (by decide) (by decide) ?_
          intro h0' P40 h40 tk40 ps KT4 F40 N40 hs40
          have F41 := fr_back (KT3.trans KT4) F40
          have N41 := news_back (KT3.trans KT4) N40
          clear F40 N40 KT4 KT3
          (repeat' (first | ((fail_if_success (with_reducible (first | refine tW ?_ | refine tI ?_ | refine tF ?_ | refine tC ?_ | refine tX ?_ | refine tR 447 ?_ | refine tR 468 ?_ | refine tR 461 ?_ | refine tR 454 ?_ | refine tR 522 ?_ | refine tR 527 ?_ | refine tR 440 ?_ | refine tR 515 ?_ | refine tR 254 ?_ | show wpAny _ _ (call (Value.type "dict") _) _ _ _ | show wpAny _ _ (eval (PySem.Expr.ListComp _ _ _ _) _) _ _ _ | show wpAny _ _ (eval (PySem.Expr.Lambda _ _ _ _) _) _ _ _ | show wpAny _ _ (exec (PySem.Stmt.If _ _ _ _) _) _ _ _ | show wpAny _ _ (compareOp PySem.CmpOp.NotEq _ _) _ _ _ | show wpAny _ _ (storeName _ _ _) _ _ _ | refine tR 426 ?_ | refine tR 433 ?_ | refine tR 314 ?_ | refine tR 321 ?_ | refine tR 377 ?_ | refine tR 370 ?_ | refine tR 286 ?_ | refine tR 384 ?_ | refine tR 391 ?_ | refine tR 45 ?_ | refine tR 475 ?_ | refine tR 482 ?_ | refine tR 489 ?_ | refine tR 496 ?_ | refine tR 503 ?_ | refine tR 510 ?_))); first | ((with_reducible show WhileStep2 _ _ _ _ _ _ (Flow.ret _) _); dsimp only [WhileStep2]) | ((with_reducible show TurnP _ _ _ _ _ _ _ _ _ (Flow.ret _) _); dsimp only [TurnP]) | (k_unfold; (try dsimp only)) | (k_end; first | refine' next_q (by with_reducible assumption) ?_ | refine' ret_q (by with_reducible assumption) ?_ | refine' brk_q (by with_reducible assumption) ?_ | refine' cont_q (by with_reducible assumption) ?_) | (k_end; wrow_close) | walk1 | (dsimp only; walk1) | (leave1; walk_say "STEP leave1"; try dsimp only)) | fail "no step"))))⟩

end
end Mine
namespace Mine
theorem chain_edges (w : World) : EdgesS w := edges_spec w
theorem chain_beside (w : World) : BesideS w := beside_spec w (edges_spec w)
theorem chain_trees (w : World) : ∀ n, TreesS w n := trees_spec w (chain_beside w) (minus_let_spec w (chain_beside w)) (signed_spec w)
theorem chain_applied (w : World) : AppliedS w := applied_spec w (new_app_spec w)
theorem chain_reduce (w : World) : ReduceS w := reduce_spec w (chain_applied w) (negated_spec w)
theorem chain_settle (w : World) : SettleS w := settle_spec w (clash_spec w) (binds_spec w) (chain_reduce w)
theorem chain_take (w : World) : TakeS w := take_spec w (take_oper_spec w (fixity_in_spec w) (chain_settle w) (wait_spec w)) (take_minus_spec w (wait_spec w))
theorem chain_whole (w : World) : WholeS w := whole_spec w (chain_reduce w)
theorem chain_bound (w : World) : BoundS w := bound_spec w (new_binder_spec w) (chain_take w) (chain_whole w)
theorem chain_right (w : World) : BoundRightS w := bound_right_spec w (new_binder_spec w) (open_spec w (fixity_in_spec w) (wait_spec w)) (chain_take w) (chain_whole w)
theorem chain_left (w : World) : BoundLeftS w := bound_left_spec w (new_binder_spec w) (fixity_in_spec w) (chain_settle w) (chain_take w)
theorem chain_items (w : World) : LawItemsS w := law_items_spec w (new_op_spec w) (new_lit_spec w)
theorem chain_sec (w : World) : SecS w := sec_spec w (new_op_spec w) (chain_items w) (chain_left w) (chain_right w) (chain_trees w) (chain_beside w) (signed_spec w) (fun t => law_node_spec w t)
theorem chain_law : PySem.Challenge.rw_np0230_01.Holds :=
  law_main pool_spec (fun w => table_spec w (take_d_spec w)) (fun w => drawn_spec w (take_d_spec w)) take_d_spec chain_trees
    (fun w => resolved_spec w (chain_bound w)) chain_items law_node_spec chain_sec new_fix_spec
end Mine
theorem PySem.Challenge.cw_np0230_01_holds : PySem.Challenge.rw_np0230_01.Holds := by
  exact Mine.chain_law
