import PyProof.Rows.All
import Wide.All
import OpenK.AllK
import Wide.FinOn
import PySem.Challenge.RW_xm0043_01
open PySem PySem.W PyProof.Rows
set_option Elab.async false
set_option maxRecDepth 100000
set_option maxHeartbeats 8000000
namespace Mine
-- without the program's twin (4 MB of olean)
local macro_rules | `(tactic| k_qdec) => `(tactic| decide +kernel)
section
def isName : Stmt → Bool
  | .Assign [.Name n _] _ _ => n == Str.ofString "__name__"
  | _ => false
def view : Program := { Challenge.pw_xm0043_01 with main := { Challenge.pw_xm0043_01.main with body := Challenge.pw_xm0043_01.main.body.filter fun s => !isName s } }
def topRunT (tb : String → Option Builtin) (p : Program) (w : World) (n₀ : Nat) (ann : Option Value) : Nat → SharedT → Thread → Option SharedT
  | 0, _, _ => none
  | n + 1, s, t => match through t with
    | true => some s
    | false => match stepOk n₀ ann t with
      | false => none
      | true => match stepT (denote tb) p w s t with
        | some (s', t') => topRunT tb p w n₀ ann n s' t'
        | none => none
theorem topRunT_spec {tb : String → Option Builtin} {p : Program} {w : World} {n₀ : Nat} {ann : Option Value} : ∀ {n : Nat} {s s' : SharedT} {t : Thread},
    topRunT tb p w n₀ ann n s t = some s' → topRun tb p w n₀ ann n s.abs t = some s'.abs
  | 0, _, _, _, h => by cases h
  | n + 1, s, s', t, h => by
    unfold topRunT at h
    unfold topRun
    cases ht : through t with
    | true => rw [ht] at h; cases h; rfl
    | false =>
      rw [ht] at h
      cases hk : stepOk n₀ ann t with
      | false => rw [hk] at h; cases h
      | true =>
        rw [hk] at h
        cases hs : stepT (denote tb) p w s t with
        | none => rw [hs] at h; cases h
        | some r => obtain ⟨s₂, t₂⟩ := r; rw [hs] at h; rw [stepT_spec hs]; exact topRunT_spec h
def treeOf : List Obj → Nat → BT → BT
  | [], _, t => t
  | o :: l, n, t => treeOf l (n + 1) (t.ins n o)
theorem blt_same {h h' : Heap} (e : h.get? builtinsNs = h'.get? builtinsNs) (b : h'.bltView = bltViewBooted) : h.bltView = bltViewBooted := by
  rw [← b]
  unfold Heap.bltView Heap.nsPairs
  rw [e]
theorem left_of_tree {p q : Program} {loose : List Str} {Xt : Shared → Bool} {α : Type} {Yf : Shared → α} {Ya : World → α} {N : Nat} {H₀ : Params → Heap} {T₀ : Params → BT} {k : Nat} {life : Life} {gs₀ : Array GenState} {d₀ : Drawn} {k₀ : Nat} {m₀ : Nat} {ann : Option Value}
    (open_ : ∀ w : World, (fencedOpening treeTable p w N).map (fun s => (s.heap, s.gens, s.drawn, s.toks)) = some (H₀ w.params, gs₀, d₀, k₀))
    (tree : ∀ w : World, absHeap (T₀ w.params) k life = H₀ w.params)
    (size : ∀ w : World, ((H₀ w.params).isNs mainGlobals && gs₀.size == 0, (H₀ w.params).objs.size, (H₀ w.params).nsMap mainGlobals "__annotations__") = (true, m₀, ann))
    (blt : ∀ w : World, (H₀ w.params).bltView = bltViewBooted)
    (run1 : ∀ (w : World) (os : OsState), (topRunT treeTable p w m₀ ann N ⟨T₀ w.params, k, life, gs₀, d₀, k₀, os⟩ (topStub p)).map (fun s => (fun s => ((staticsOk (importedModules p.main.body) (H₀ w.params) s.heap && namesBound p s.heap && gensDone s && laidKept (H₀ w.params) s.heap),
        s.heap.get? builtinsNs, (openSeen q loose (importedModules p.main.body) Xt true s).1, Yf s)) s.abs) = some (true, (H₀ w.params).get? builtinsNs, (openGood q loose).1, Ya w))
    (run2 : ∀ (w : World) (os : OsState), (topRunT treeTable p w m₀ ann N ⟨T₀ w.params, k, life, gs₀, d₀, k₀, os⟩ (topStub p)).map (fun s => (openSeen q loose (importedModules p.main.body) Xt true s.abs).2.2) = some (openGood q loose).2.2) : LeftO p q loose Xt Yf Ya N := fun w => by
  obtain ⟨⟨h, gs, d, k', os⟩, e, e'⟩ := Option.map_eq_some_iff.mp (open_ w)
  obtain ⟨rfl, rfl, rfl, rfl⟩ : h = H₀ w.params ∧ gs = gs₀ ∧ d = d₀ ∧ k' = k₀ := by simpa using e'
  obtain ⟨z1, z2, z3⟩ : _ ∧ _ ∧ _ := by simpa only [Prod.mk.injEq] using size w
  obtain ⟨s', r, l⟩ := Option.map_eq_some_iff.mp (run1 w os)
  have l4 : (openSeen q loose (importedModules p.main.body) Xt true s'.abs).2.2 = (openGood q loose).2.2 := by
    have := run2 w os
    rw [r] at this
    exact Option.some.inj this
  have l1 := congrArg (fun x => x.1) l
  have l2 := congrArg (fun x => x.2.1) l
  have l3 := congrArg (fun x => x.2.2.1) l
  have l5 := congrArg (fun x => x.2.2.2) l
  dsimp only at l1 l2 l3 l5
  have l6 : openSeen q loose (importedModules p.main.body) Xt true s'.abs = openGood q loose := Prod.ext l3 (Prod.ext (blt_same l2 (blt w)) l4)
  have r := topRunT_spec r
  rw [show (SharedT.abs ⟨T₀ w.params, k, life, gs, d, k', os⟩) = ⟨H₀ w.params, gs, d, k', os⟩ from by unfold SharedT.abs; rw [tree w]] at r
  have t : topFrom treeTable p w N ⟨H₀ w.params, gs, d, k', os⟩ = some s'.abs := by
    unfold topFrom
    dsimp only
    rw [z1, z2, z3, r]
    show (match staticsOk (importedModules p.main.body) (H₀ w.params) s'.abs.heap && namesBound p s'.abs.heap && gensDone s'.abs && laidKept (H₀ w.params) s'.abs.heap with | true => some s'.abs | false => none) = _
    rw [l1]
  unfold openEnds
  rw [e]
  show Option.map _ (topFrom treeTable p w N ⟨H₀ w.params, gs, d, k', os⟩) = _
  rw [t]
  show some (openSeen q loose (importedModules p.main.body) Xt true s'.abs, Yf s'.abs) = _
  rw [l6, l5]
/-- the boot's builtins as they are booted: apart from the run, so that no run stands beside it in the kernel's memory -/
theorem boot_blt (w : World) : (boot_heap w.params).bltView = bltViewBooted := by kernel_rfl
/-- the second half of the looks at the state behind the top: apart, so that each half has the kernel's memory for itself -/
theorem looks2 (w : World) (os : OsState) : (topRunT treeTable Challenge.pw_xm0043_01 w 11 (some (.ref 6)) 4810 ⟨treeOf (boot_heap w.params).objs.toList 0 .nil, 11, {}, Array.mk [], boot_drawn, boot_toks, os⟩ (topStub Challenge.pw_xm0043_01)).map
    (fun s => (openSeen view [Str.ofString "BasicError"] (importedModules Challenge.pw_xm0043_01.main.body) (fun s => xlAt view [] s && recOk (RowW.records (OpenRow.toRowW PySem.Challenge.rw_xm0043_01.row)) s) true s.abs).2.2) = some (openGood view [Str.ofString "BasicError"]).2.2 := by kernel_rfl
local macro_rules | `(tactic| o_law) => `(tactic| refine holds_law (by decide +kernel) fun said => ?_)
local macro_rules | `(tactic| o_head $H) => `(tactic| (
  refine holds_open (q := view) (loose := [Str.ofString "BasicError"]) (Xt := fun s => xlAt view [] s && recOk (RowW.records (OpenRow.toRowW PySem.Challenge.rw_xm0043_01.row)) s) (XP := XL view []) (Yf := Hook.obs $H) (Ya := Hook.val $H) (YP := Hook.says $H) (N := 4810) ?hl (Hook.of $H) (Hook.keeps $H) (fun s e => xl_of s (Bool.and_eq_true_iff.mp e).1) XL.keeps (by rfl) (by rfl) (by rfl) (fun s e => recFacts_of (Bool.and_eq_true_iff.mp e).2) (by rfl) (by first | assumption | decide +kernel) (by decide +kernel) ⟨rfl, rfl, rfl, rfl, rfl, by decide +kernel⟩ ?hw ?hc
  (case hl => exact left_of_tree (T₀ := fun P => treeOf (boot_heap P).objs.toList 0 .nil) (k := 11) (life := {}) (m₀ := 11) (ann := some (.ref 6)) (boot_open (by kernel_rfl) (by kernel_rfl) (fun s => by kernel_rfl)) (fun w => by kernel_rfl) (fun w => by kernel_rfl) boot_blt (fun w os => by kernel_rfl) looks2)))
open_top hd for PySem.Challenge.rw_xm0043_01
end
-- the head has set the walk's marks: back to what they are in a text without a head
theorem quiet : True := by
  w_top off
  trivial
section PartB0
/-- a tree that the law builds: X, a number, a sum, a difference, a product -/
inductive Tr where
  | x
  | num (k : Int)
  | add (a b : Tr)
  | sub (a b : Tr)
  | mul (a b : Tr)
def Tr.size : Tr → Nat
  | .x => 0
  | .num _ => 0
  | .add a b => a.size + b.size + 1
  | .sub a b => a.size + b.size + 1
  | .mul a b => a.size + b.size + 1
def Tr.slope : Tr → Tr
  | .x => .num 1
  | .num _ => .num 0
  | .add a b => .add a.slope b.slope
  | .sub a b => .sub a.slope b.slope
  | .mul a b => .add (.mul a.slope b) (.mul a b.slope)
abbrev tup (l : List Value) (n : Nat) : Obj := { cls := .type "tuple", data := .seq l.toArray n }
/-- the ledger bears the tree at v -/
inductive TrIn (led : List (Addr × Obj)) : Value → Tr → Prop where
  | x {a : Addr} {t1 t2 : Tok} {n : Nat} : (a, tup [.str (Str.ofString "name") t1, .str (Str.ofString "X") t2] n) ∈ led → TrIn led (.ref a) .x
  | num {a : Addr} {t1 t2 : Tok} {n : Nat} {k : Int} : (a, tup [.str (Str.ofString "whole") t1, .int k t2] n) ∈ led → TrIn led (.ref a) (.num k)
  | add {a : Addr} {t1 t2 : Tok} {n : Nat} {u v : Value} {A B : Tr} : (a, tup [.str (Str.ofString "two") t1, .str (Str.ofString "+") t2, u, v] n) ∈ led → TrIn led u A → TrIn led v B → TrIn led (.ref a) (.add A B)
  | sub {a : Addr} {t1 t2 : Tok} {n : Nat} {u v : Value} {A B : Tr} : (a, tup [.str (Str.ofString "two") t1, .str (Str.ofString "-") t2, u, v] n) ∈ led → TrIn led u A → TrIn led v B → TrIn led (.ref a) (.sub A B)
  | mul {a : Addr} {t1 t2 : Tok} {n : Nat} {u v : Value} {A B : Tr} : (a, tup [.str (Str.ofString "two") t1, .str (Str.ofString "*") t2, u, v] n) ∈ led → TrIn led u A → TrIn led v B → TrIn led (.ref a) (.mul A B)
theorem TrIn.mono {led led' : List (Addr × Obj)} {v : Value} {T : Tr} (h : TrIn led v T) (s : ∀ p ∈ led, p ∈ led') : TrIn led' v T := by
  induction h with
  | x m => exact .x (s _ m)
  | num m => exact .num (s _ m)
  | add m _ _ i j => exact .add (s _ m) i j
  | sub m _ _ i j => exact .sub (s _ m) i j
  | mul m _ _ i j => exact .mul (s _ m) i j
theorem TrIn.isRef {led : List (Addr × Obj)} {v : Value} {T : Tr} (h : TrIn led v T) : ∃ a, v = .ref a := by
  cases h <;> exact ⟨_, rfl⟩
noncomputable abbrev prg : Program := PySem.Challenge.rw_xm0043_01.row.prog
noncomputable abbrev lo : List Str := looseW view [Str.ofString "BasicError"]
/-- what a call of the def at f with the values vs does, from the ledger «news»: it comes back with a ledger and a value that Post says -/
def Call (w : World) (mean : ExcName → Option Value) (mg mb : Str → Option Value) (f : Addr) (vs : List Value) (room : Nat) (news : List (Addr × Obj)) (Post : List (Addr × Obj) → Value → Prop) : Prop :=
  ∀ (dp un : Nat) (gd : Option (List Code)) (cn : Str) (cs : Scope) (a : Addr) (ccd : Value) (cl : List (Str × Addr)) (outer : List Env) (A₀ : Around) (base h₀ : Heap) (L : Addr) (m : Str → Option Value) (s : Shared)
    (Q E : Value → Shared → Prop),
    Below A₀ base outer h₀ → Fr h₀ L s.heap m → (hd.heap_1 w.params).In h₀ → News h₀ L s.heap news → Top view lo mean mg mb h₀ → cs.kind = .function → dp + room < recursionLimit → un + 8 * room < cLine →
    (∀ r led h' tk', Fr h₀ L h' m → News h₀ L h' led → Post led r → Q r { s with heap := h', toks := tk' }) →
    wpAny (model PySem.Challenge.rw_xm0043_01.row.prog w) (ktrTop dp un gd cn cs L a ccd cl outer) (call (.ref f) vs) Q E s
theorem Call.use {w : World} {mean : ExcName → Option Value} {mg mb : Str → Option Value} {f : Addr} {vs : List Value} {room : Nat} {news : List (Addr × Obj)} {Post : List (Addr × Obj) → Value → Prop}
    {dp un : Nat} {gd : Option (List Code)} {cn : Str} {cs : Scope} {a : Addr} {ccd : Value} {cl : List (Str × Addr)} {outer : List Env} {A₀ : Around} {base h₀ : Heap} {L : Addr} {m : Str → Option Value} {s : Shared}
    {Q E : Value → Shared → Prop} (B : Below A₀ base outer h₀) (F : Fr h₀ L s.heap m) (X : (hd.heap_1 w.params).In h₀) (N : News h₀ L s.heap news) (T : Top view lo mean mg mb h₀) (hk : cs.kind = .function)
    (C : Call w mean mg mb f vs room news Post) (hd : dp + room < recursionLimit) (hu : un + 8 * room < cLine)
    (ret : ∀ r led h' tk', Fr h₀ L h' m → News h₀ L h' led → Post led r → Q r { s with heap := h', toks := tk' }) :
    wpAny (model PySem.Challenge.rw_xm0043_01.row.prog w) (ktrTop dp un gd cn cs L a ccd cl outer) (call (.ref f) vs) Q E s := C _ _ _ _ _ _ _ _ _ _ _ _ _ _ _ _ _ B F X N T hk hd hu ret
def Tups (tl : List (Addr × Obj)) : Prop := ∀ p ∈ tl, p.2.cls = .type "tuple"
def tupB (p : Addr × Obj) : Bool := match p.2.cls with
  | .type n => n == "tuple"
  | _ => false
theorem tupB_cls {p : Addr × Obj} (h : tupB p = true) : p.2.cls = .type "tuple" := by
  unfold tupB at h
  split at h
  · rename_i n e
    rw [e, beq_iff_eq.mp h]
  · cases h
theorem TrIn.tups {l l' : List (Addr × Obj)} {v : Value} {T : Tr} (h : TrIn l v T) (s : ∀ p ∈ l, tupB p = true → p ∈ l') : TrIn l' v T := by
  induction h with
  | x m => exact .x (s _ m rfl)
  | num m => exact .num (s _ m rfl)
  | add m _ _ i j => exact .add (s _ m rfl) i j
  | sub m _ _ i j => exact .sub (s _ m rfl) i j
  | mul m _ _ i j => exact .mul (s _ m rfl) i j
/-- a ledger cut down to what stood and the new tuples -/
theorem news_tups {h₀ h : Heap} {L : Addr} {news l : List (Addr × Obj)} {r : Value} {T : Tr} (N : News h₀ L h l) (hs : ∀ p ∈ news, p ∈ l) (R : TrIn l r T) : ∃ tl, Tups tl ∧ News h₀ L h (news ++ tl) ∧ TrIn (news ++ tl) r T :=
  ⟨l.filter tupB, fun _ hp => tupB_cls (List.mem_filter.mp hp).2, fun p hp => N p ((List.mem_append.mp hp).elim (hs p) fun h => (List.mem_filter.mp h).1),
    R.tups fun _ hp ht => List.mem_append.mpr (.inr (List.mem_filter.mpr ⟨hp, ht⟩))⟩
section
variable {α : Type} {X Y a b : List α} {c : α}
theorem sub_app (h : ∀ p ∈ a, p ∈ Y) (k : ∀ p ∈ b, p ∈ Y) : ∀ p ∈ a ++ b, p ∈ Y := fun p hp => (List.mem_append.mp hp).elim (h p) (k p)
theorem sub_cons (h : c ∈ Y) (k : ∀ p ∈ b, p ∈ Y) : ∀ p ∈ c :: b, p ∈ Y := fun p hp => (List.mem_cons.mp hp).elim (fun e => e ▸ h) (k p)
theorem sub_nil : ∀ p ∈ ([] : List α), p ∈ Y := fun _ h => nomatch h
theorem sub_tail (h : ∀ p ∈ X, p ∈ Y) : ∀ p ∈ X, p ∈ c :: Y := fun p hp => List.mem_cons_of_mem _ (h p hp)
theorem sub_inl (h : ∀ p ∈ X, p ∈ a) : ∀ p ∈ X, p ∈ a ++ b := fun p hp => List.mem_append.mpr (.inl (h p hp))
theorem sub_inr (h : ∀ p ∈ X, p ∈ b) : ∀ p ∈ X, p ∈ a ++ b := fun p hp => List.mem_append.mpr (.inr (h p hp))
theorem sub_tr (h : ∀ p ∈ X, p ∈ Y) (k : ∀ p ∈ Y, p ∈ a) : ∀ p ∈ X, p ∈ a := fun p hp => k p (h p hp)
end
end PartB0
section PartB1
section
variable {prog : Program} {w : World} {A : Around} {E : Value → Shared → Prop} {s : Shared} {env : Env} {h₀ : Heap} {x : Str} {body : List Stmt} {Q : Flow → Shared → Prop}
/-- a loop over a range by ones, by any word of the turn's number, the frame's map and the ledger -/
theorem rng_loop {r : Addr} {a₀ b₀ : Int} {t₀ u₀ v₀ : Tok} {n : Nat} {m₀ : Str → Option Value} {news : List (Addr × Obj)} (J : Nat → (Str → Option Value) → List (Addr × Obj) → Prop)
    (hh : A.handled = none) (hr : IsRange s.heap r a₀ b₀ 1 t₀ u₀ v₀) (hsmall : Builtin.Range.small a₀ b₀ 1 = true) (hsz : Builtin.Range.rangeSize a₀ b₀ 1 = (n : Int)) (F : Fr h₀ env.locals s.heap m₀) (N : News h₀ env.locals s.heap news) (hj : J 0 m₀ news)
    (turn : ∀ (i : Nat) t m₁ nx h tk own, i < n → OwnOff own (nx.map (·.1)) → J i m₁ nx → Fr h₀ env.locals h (fun y => if y = x then some (.int (a₀ + (i : Int)) t) else m₁ y) → News h₀ env.locals h (nx ++ own) →
      wpAny (model prog w) A (execs body env) (InvPostG h₀ env.locals (J (i + 1)) own { s with heap := h, toks := tk } Q) E { s with heap := h, toks := tk })
    (done : ∀ m₁ nx h tk, J n m₁ nx → Fr h₀ env.locals h m₁ → News h₀ env.locals h nx → Q .next { s with heap := h, toks := tk }) :
    wpAny (model prog w) A (pyIter (.ref r)) (fun it s₂ => LoopAtV prog w A h₀ env x body Q E it s₂) E s := by
  refine wpAny_pyIter_range hr hsmall ?_
  have W : Walks prog w A s.heap.objs.size [s.heap.objs.size] [s.heap.objs.size] n (fun i v => i < n ∧ ∃ t, v = .int (a₀ + i * 1) t)
      (fun i h => IsRangeIter h s.heap.objs.size (a₀ + (i : Nat) * 1) ((n : Int) - (i : Nat)) 1) := (Walks.range hh _ a₀ 1 n).bound
  refine kdr_loop J W (fun _ h => h) (fun _ h => h) (fun i h hi b hb => by rw [List.mem_singleton.mp hb]; exact ⟨_, hi⟩) (fun hm => absurd F.ns.lt ((List.mem_singleton.mp hm) ▸ Nat.lt_irrefl _)) (fun b hb => by rw [List.mem_singleton.mp hb]; exact next_is_new F)
    (fun p hp hI => absurd (Heap.lt_size (N p hp).1) ((List.mem_singleton.mp hI) ▸ Nat.lt_irrefl _)) (by show IsRangeIter _ _ _ _ _; rw [hsz]; simpa using Heap.get?_push_size _ rfl) (F.push _) (fun p hp => ⟨Heap.get?_push_of_some _ (N p hp).1, (N p hp).2⟩) hj ?_ done
  rintro i v m₁ nx h tk own hi ⟨_, t, rfl⟩ hoff hJ F₁ N₁
  have e1 : a₀ + (i : Int) * 1 = a₀ + (i : Int) := by omega
  rw [e1] at F₁
  exact turn i t m₁ nx h tk own hi hoff hJ F₁ N₁
/-- a loop over a tuple of the ledger's, by any word -/
theorem tup_loop {t : Addr} {vs : List Value} {nn : Nat} {m₀ : Str → Option Value} {newsT news : List (Addr × Obj)} (J : Nat → (Str → Option Value) → List (Addr × Obj) → Prop)
    (hh : A.handled = none) (ht : (t, tup vs nn) ∈ newsT) (F : Fr h₀ env.locals s.heap m₀) (N₀ : News h₀ env.locals s.heap newsT) (hsub : ∀ p ∈ news, p ∈ newsT) (hne : ∀ p ∈ news, p.1 ≠ t) (hj : J 0 m₀ news)
    (turn : ∀ (i : Nat) v m₁ nx h tk own, vs[i]? = some v → OwnOff own (nx.map (·.1)) → J i m₁ nx → Fr h₀ env.locals h (fun y => if y = x then some v else m₁ y) → News h₀ env.locals h (nx ++ own) →
      wpAny (model prog w) A (execs body env) (InvPostG h₀ env.locals (J (i + 1)) own { s with heap := h, toks := tk } Q) E { s with heap := h, toks := tk })
    (done : ∀ m₁ nx h tk, J vs.length m₁ nx → Fr h₀ env.locals h m₁ → News h₀ env.locals h nx → Q .next { s with heap := h, toks := tk }) :
    wpAny (model prog w) A (pyIter (.ref t)) (fun it s₂ => LoopAtV prog w A h₀ env x body Q E it s₂) E s := by
  have N : News h₀ env.locals s.heap news := fun p hp => N₀ p (hsub p hp)
  have hot : s.heap.get? t = some (tup vs nn) := (N₀ _ ht).1
  have hts : s.heap.IsTuple t vs.toArray := ⟨_, hot, rfl, nn, rfl⟩
  have htI : t ≠ s.heap.objs.size := Nat.ne_of_lt (Heap.lt_size hot)
  refine wpAny_pyIter_tuple hts ?_
  have W := Walks.tuple (prog := prog) (w := w) hh s.heap.objs.size t htI vs.toArray
  rw [show vs.toArray.size = vs.length from List.size_toArray] at W
  refine ⟨_, _, _, vs.length, _, _, m₀, news, (fun i m nx => (∀ p ∈ nx, p.1 ≠ t) ∧ J i m nx), rfl, W, ?_, ?_, ?_, ⟨⟨_, Heap.get?_push_size _ rfl, rfl, rfl⟩, hts.at fun o e => Heap.get?_push_of_some _ e⟩, F.push _, (fun p hp => ⟨Heap.get?_push_of_some _ (N p hp).1, (N p hp).2⟩), ⟨hne, hj⟩, ?_, ?_⟩
  · intro hm
    rcases List.mem_cons.mp hm with e | hm
    · exact absurd F.ns.lt (e ▸ Nat.lt_irrefl _)
    · exact (N₀ _ ht).2.1 (List.mem_singleton.mp hm).symm
  · intro b hb
    rw [List.mem_singleton.mp hb]
    exact next_is_new F
  · intro p hp hI
    exact absurd (Heap.lt_size (N p hp).1) ((List.mem_singleton.mp hI) ▸ Nat.lt_irrefl _)
  · rintro i v m₁ nx s₁ own ⟨h1, tk1, rfl⟩ hi hP ⟨hnt, hJ⟩ hoff hown hget hfp hst F₁ N₁
    have hI0 : h₀.get? s.heap.objs.size = none := next_is_new F
    obtain ⟨⟨oI, hoI, _⟩, ⟨oT, hoT, _⟩⟩ := id hst
    have hIown : (s.heap.objs.size, oI) ∈ own := hfp _ (.head _) hI0 _ hoI
    have hTown : (t, oT) ∈ own := hfp _ (.tail _ (.head _)) (N₀ _ ht).2.2 _ hoT
    have hsep : OwnOff own (nx.map (·.1)) := by
      intro p hp b hb e
      obtain ⟨q, hq, rfl⟩ := List.mem_map.mp hb
      rcases List.mem_cons.mp (hown p hp) with h2 | h2
      · exact hoff q hq (List.mem_singleton.mpr (e ▸ h2))
      · exact hnt q hq (e ▸ List.mem_singleton.mp h2)
    have N₂ : News h₀ env.locals h1 (nx ++ own) := fun p hp => N₁ p ((List.mem_append.mp hp).elim (fun h => List.mem_append.mpr (.inr h)) fun h => List.mem_append.mpr (.inl h))
    have hP' : vs[i]? = some v := by simpa using hP
    refine wpAny_mono (turn i v m₁ nx h1 tk1 own hP' hsep hJ F₁ N₂) (fun f s₂ p => ?_) fun _ _ e => e
    have fin : InvEndG h₀ env.locals (J (i + 1)) own { s with heap := h1, toks := tk1 } s₂ → LoopStepU h₀ env.locals [s.heap.objs.size] own (fun m nx => (∀ p ∈ nx, p.1 ≠ t) ∧ J (i + 1) m nx) { s with heap := h1, toks := tk1 } .next s₂ := by
      rintro ⟨h', tk, m', news', nx', e, F', N', hn, ho, ha, hm⟩
      refine ⟨rfl, h', tk, m', nx', e, F', fun p hp => N' p ((List.mem_append.mp hp).elim (ho p) (hn p)), fun p hp hq => ?_, fun p hp hq => ?_, hm⟩
      · exact ha _ hIown p.1 (List.mem_map.mpr ⟨p, hp, rfl⟩) (List.mem_singleton.mp hq).symm
      · exact ha _ hTown p.1 (List.mem_map.mpr ⟨p, hp, rfl⟩) hq.symm
    cases f with
    | ret v => exact .ret p
    | brk => exact .brk p
    | next => exact .next (fin p)
    | cont => exact .cont (fin p)
  · rintro h' tk m' news' F' N' _ ⟨_, hJ⟩
    exact done m' news' h' tk hJ F' N'
end
/-- a list of values, a tree each -/
inductive TrsIn (led : List (Addr × Obj)) : List Value → List Tr → Prop where
  | nil : TrsIn led [] []
  | cons {v : Value} {T : Tr} {vs : List Value} {Ts : List Tr} : TrIn led v T → TrsIn led vs Ts → TrsIn led (v :: vs) (T :: Ts)
theorem TrsIn.mono {led led' : List (Addr × Obj)} {vs : List Value} {Ts : List Tr} (h : TrsIn led vs Ts) (s : ∀ p ∈ led, p ∈ led') : TrsIn led' vs Ts := by
  induction h with
  | nil => exact .nil
  | cons a _ ih => exact .cons (a.mono s) ih
theorem TrsIn.length {led : List (Addr × Obj)} {vs : List Value} {Ts : List Tr} (h : TrsIn led vs Ts) : vs.length = Ts.length := by
  induction h with
  | nil => rfl
  | cons _ _ ih => simp [ih]
theorem TrsIn.append {led : List (Addr × Obj)} {vs ws : List Value} {Ts Us : List Tr} (h : TrsIn led vs Ts) (k : TrsIn led ws Us) : TrsIn led (vs ++ ws) (Ts ++ Us) := by
  induction h with
  | nil => exact k
  | cons a _ ih => exact .cons a ih
theorem TrsIn.split {led : List (Addr × Obj)} {ws : List Value} : ∀ {vs : List Value} {Ts : List Tr}, TrsIn led (vs ++ ws) Ts → ∃ Ta Tb, Ts = Ta ++ Tb ∧ TrsIn led vs Ta ∧ TrsIn led ws Tb
  | [], Ts, h => ⟨[], Ts, rfl, .nil, h⟩
  | _ :: _, _, .cons a h => by
    obtain ⟨Ta, Tb, rfl, x, y⟩ := TrsIn.split h
    exact ⟨_ :: Ta, Tb, rfl, .cons a x, y⟩
theorem pick_to {pre r : List Value} {k : Int} (h : (pre.length : Int) = k) : kms_pick (pre ++ r).toArray.toList none (some k) = pre := by
  subst h
  have h1 : ¬ ((pre.length : Int) < 0) := by omega
  unfold kms_pick kms_lo kms_hi
  simp only [if_neg h1, Int.toNat_natCast, List.drop_zero, Nat.sub_zero, List.length_append]
  rw [Nat.min_eq_left (Nat.le_add_right _ _), List.take_left']
  rfl
theorem pick_from {pre r : List Value} {k : Int} (h : (pre.length : Int) = k) : kms_pick (pre ++ r).toArray.toList (some k) none = r := by
  subst h
  have h1 : ¬ ((pre.length : Int) < 0) := by omega
  unfold kms_pick kms_lo kms_hi
  simp only [if_neg h1, Int.toNat_natCast, List.length_append]
  rw [Nat.min_eq_left (Nat.le_add_right _ _), List.drop_left']
  · rw [List.take_of_length_le]
    omega
  · rfl
theorem cut_at {α : Type} {l : List α} {k : Nat} (h : k + 1 < l.length) : ∃ pre u v post, l = pre ++ u :: v :: post ∧ pre.length = k := by
  refine ⟨l.take k, l[k], l[k + 1], l.drop (k + 2), ?_, by rw [List.length_take]; omega⟩
  rw [← List.drop_eq_getElem_cons (by omega), ← List.drop_eq_getElem_cons (by omega), List.take_append_drop]
def Tr.leaves : Tr → Nat
  | .x => 1
  | .num _ => 1
  | .add a b => a.leaves + b.leaves
  | .sub a b => a.leaves + b.leaves
  | .mul a b => a.leaves + b.leaves
/-- the numbers are small -/
def Tr.ok : Tr → Prop
  | .x => True
  | .num k => 0 ≤ k ∧ k ≤ 5
  | .add a b => a.ok ∧ b.ok
  | .sub a b => a.ok ∧ b.ok
  | .mul a b => a.ok ∧ b.ok
theorem off_app {a b : List (Addr × Obj)} {d : Addr} (h : ∀ p ∈ a, p.1 ≠ d) (k : ∀ p ∈ b, p.1 ≠ d) : ∀ p ∈ a ++ b, p.1 ≠ d := fun p hp => (List.mem_append.mp hp).elim (h p) (k p)
theorem fr_two {h₀ h : Heap} {L : Addr} {x y₁ y₂ : Str} {m : Str → Option Value} {v v₁ v₂ : Value} (h1 : m y₁ = some v₁) (h2 : m y₂ = some v₂) (F : Fr h₀ L h (fun y => if y = x then some v else m y)) :
    Fr h₀ L h (fun y => if y = x then some v else if y = y₁ then some v₁ else if y = y₂ then some v₂ else m y) := by
  have e : (fun y => if y = x then some v else if y = y₁ then some v₁ else if y = y₂ then some v₂ else m y) = fun y => if y = x then some v else m y := by
    funext y
    by_cases a : y = x
    · rw [if_pos a, if_pos a]
    · rw [if_neg a, if_neg a]
      by_cases b : y = y₁
      · rw [if_pos b, b, h1]
      · rw [if_neg b]
        by_cases c : y = y₂
        · rw [if_pos c, c, h2]
        · rw [if_neg c]
  rw [e]; exact F
theorem fr_two' {h₀ h : Heap} {L : Addr} {y₁ y₂ : Str} {m : Str → Option Value} {v₁ v₂ : Value} (h1 : m y₁ = some v₁) (h2 : m y₂ = some v₂) (F : Fr h₀ L h m) :
    Fr h₀ L h (fun y => if y = y₁ then some v₁ else if y = y₂ then some v₂ else m y) := by
  have e : (fun y => if y = y₁ then some v₁ else if y = y₂ then some v₂ else m y) = m := by
    funext y
    by_cases b : y = y₁
    · rw [if_pos b, b, h1]
    · rw [if_neg b]
      by_cases c : y = y₂
      · rw [if_pos c, c, h2]
      · rw [if_neg c]
  rw [e]; exact F
theorem allLt_ne {d : Addr} {l : List (Addr × Obj)} (h : AllLt d l) : ∀ p ∈ l, p.1 ≠ d := fun p hp => Nat.ne_of_lt (ktn_ltOf h p hp)
theorem app_L {prog : Program} {w : World} {A : Around} {E : Value → Shared → Prop} {s : Shared} {h₀ : Heap} {L D : Addr} {m : Str → Option Value} {news news' : List (Addr × Obj)} {vs : List Value} {n : Nat} {x : Value} {Q : Value → Shared → Prop}
    (F : Fr h₀ L s.heap m) (N : News h₀ L s.heap news) (U : Upd D (listOf vs.toArray n) (listOf (vs ++ [x]).toArray (n + 1)) news news') (hsz : vs.length ≤ 1000000)
    (h : ∀ h', Fr h₀ L h' m → News h₀ L h' news' → Q .none { s with heap := h' }) : wpAny (model prog w) A (call (.builtin "list.append") [.ref D, x]) Q E s := by
  rw [show (vs ++ [x]).toArray = vs.toArray.push x from (by simp)] at U
  exact append_K F N U h (by rw [List.size_toArray, sizeLine_eq]; omega)
theorem pick_from2 {pre post : List Value} {u v : Value} {k : Int} (h : (pre.length : Int) + 2 = k) : kms_pick (List.toArray (pre ++ u :: v :: post)).toList (some k) none = post := by
  rw [show pre ++ u :: v :: post = (pre ++ [u, v]) ++ post by simp]
  exact pick_from (by rw [List.length_append]; simp only [List.length_cons, List.length_nil]; omega)
theorem cat_lit {a b : List Value} : (List.toArray a).toList ++ (List.toArray b).toList = a ++ b := by simp
theorem get_u {pre post : List Value} {u v : Value} {k : Int} (h : (pre.length : Int) = k) : (pre ++ u :: v :: post)[k.toNat]? = some u := by
  subst h; simp
theorem get_v {pre post : List Value} {u v : Value} {k : Int} (h : (pre.length : Int) + 1 = k) : (pre ++ u :: v :: post)[k.toNat]? = some v := by
  subst h
  rw [show ((pre.length : Int) + 1).toNat = pre.length + 1 by omega]
  simp
theorem four {t1 t2 t3 t4 : Tok} {i : Nat} {v : Value} (h : [Value.int 4 t1, .int 3 t2, .int 2 t3, .int 1 t4][i]? = some v) : ∃ (k : Int) (t : Tok), v = .int k t ∧ k = 4 - (i : Int) ∧ i < 4 := by
  match i, h with
  | 0, h => exact ⟨4, t1, (Option.some.inj h).symm, rfl, by decide⟩
  | 1, h => exact ⟨3, t2, (Option.some.inj h).symm, rfl, by decide⟩
  | 2, h => exact ⟨2, t3, (Option.some.inj h).symm, rfl, by decide⟩
  | 3, h => exact ⟨1, t4, (Option.some.inj h).symm, rfl, by decide⟩
  | n + 4, h => simp at h
/-- the second loop's word -/
def J2 (bag il : Addr) (vs : List Value) (nb ni : Nat) (i : Nat) (m : Str → Option Value) (nx : List (Addr × Obj)) : Prop :=
  ∃ (row : Addr) (sp : Int) (t : Tok) (vals : List Value) (n : Nat) (rest : List (Addr × Obj)) (Ts : List Tr), nx = (bag, listOf #[.ref il, .int sp t] nb) :: (il, listOf vs.toArray ni) :: (row, listOf vals.toArray n) :: rest ∧
    m (Str.ofString "bag") = some (.ref bag) ∧ m (Str.ofString "row") = some (.ref row) ∧ TrsIn rest vals Ts ∧ Ts.length + i = 5 ∧ (∀ T ∈ Ts, T.ok) ∧ (Ts.map Tr.leaves).sum = 5 ∧ 0 ≤ sp ∧ sp ≤ 40 + 2 * (i : Int) ∧ (∀ p ∈ rest, p.1 ≠ bag) ∧ @Ne Nat bag row
theorem J2_end {h₀ h' : Heap} {L bag il rw₁ D : Addr} {o : Obj} {m' : Str → Option Value} {vs pre post : List Value} {u v : Value} {nb ni n : Nat} {l rest own : List (Addr × Obj)} {Ts : List Tr} {sp : Int} {t : Tok} {i tk : Nat} {s₁ : Shared} {row : Addr}
    (F : Fr h₀ L h' m') (N : News h₀ L h' l) (m1 : (bag, listOf #[.ref il, .int sp t] nb) ∈ l) (m2 : (il, listOf vs.toArray ni) ∈ l) (m3 : (rw₁, listOf (List.toArray (pre ++ [Value.ref D] ++ post)) n) ∈ l) (m4 : (D, o) ∈ l) (sr : ∀ p ∈ rest ++ own, p ∈ l)
    (hb : m' (Str.ofString "bag") = some (.ref bag)) (hrw : m' (Str.ofString "row") = some (.ref rw₁)) (hT : TrsIn rest (pre ++ u :: v :: post) Ts) (hC : ∀ A B, TrIn rest u A → TrIn rest v B → A.ok → B.ok → ∃ C : Tr, TrIn ((D, o) :: rest) (.ref D) C ∧ C.leaves = A.leaves + B.leaves ∧ C.ok)
    (hTl : Ts.length + i = 5) (hTs : ∀ T ∈ Ts, T.ok) (hsum : (Ts.map Tr.leaves).sum = 5)
    (h0 : 0 ≤ sp) (hs : sp ≤ 40 + 2 * ((i + 1 : Nat) : Int)) (hd1 : ∀ p ∈ rest, p.1 ≠ bag) (hoff : OwnOff own (bag :: il :: row :: rest.map (·.1)))
    (l1 : @LT.lt Nat _ bag D) (l2 : @LT.lt Nat _ bag rw₁) (l4 : AllLt D (rest ++ own)) (l5 : AllLt rw₁ (rest ++ own)) : InvEndG h₀ L (J2 bag il vs nb ni (i + 1)) own s₁ { s₁ with heap := h', toks := tk } := by
  have lt := ktn_ltOf l4
  have lt5 := ktn_ltOf l5
  obtain ⟨Ta, Tb, rfl, ha, hb1⟩ := hT.split
  cases hb1 with
  | @cons _ A _ Ts2 hA hb2 => cases hb2 with
    | @cons _ B _ Tb hB hb3 =>
      obtain ⟨C, hC1, hC2, hC3⟩ := hC A B hA hB (hTs A (by simp)) (hTs B (by simp))
      refine ⟨h', tk, m', l, (bag, listOf #[.ref il, .int sp t] nb) :: (il, listOf vs.toArray ni) :: (rw₁, listOf (List.toArray (pre ++ [Value.ref D] ++ post)) n) :: ((D, o) :: rest), rfl, F, N, ?_, fun p hp => sr p (List.mem_append.mpr (.inr hp)), ?_, rw₁, sp, t, (pre ++ [Value.ref D] ++ post : List Value), n, (D, o) :: rest, (Ta ++ [C] ++ Tb : List Tr), rfl, hb, hrw, ?_, ?_, ?_, ?_, h0, hs, ?_, Nat.ne_of_lt l2⟩
      · intro p hp
        simp only [List.mem_cons] at hp
        rcases hp with e | e | e | e | e
        · exact e ▸ m1
        · exact e ▸ m2
        · exact e ▸ m3
        · exact e ▸ m4
        · exact sr p (List.mem_append.mpr (.inl e))
      · intro p hp b hb'
        simp only [List.map_cons, List.mem_cons] at hb'
        rcases hb' with e | e | e | e | e
        · exact hoff p hp b (by simp [e])
        · exact hoff p hp b (by simp [e])
        · rw [e]
          exact Nat.ne_of_lt (lt5 p (List.mem_append.mpr (.inr hp)))
        · rw [e]
          exact Nat.ne_of_lt (lt p (List.mem_append.mpr (.inr hp)))
        · exact hoff p hp b (by simp [e])
      · exact ((ha.mono fun p hp => .tail _ hp).append (.cons hC1 .nil)).append (hb3.mono fun p hp => .tail _ hp)
      · simp only [List.length_append, List.length_cons, List.length_nil] at hTl ⊢
        omega
      · intro T' h'
        simp only [List.mem_append, List.mem_singleton] at h'
        rcases h' with (h' | h') | h'
        · exact hTs T' (by simp [h'])
        · rw [h']; exact hC3
        · exact hTs T' (by simp [h'])
      · simp only [List.map_append, List.map_cons, List.map_nil, List.sum_append, List.sum_cons, List.sum_nil] at hsum ⊢
        omega
      · intro p hp
        rcases List.mem_cons.mp hp with rfl | hp
        · exact (Nat.ne_of_lt l1).symm
        · exact hd1 p hp
theorem C_add {D : Addr} {rest : List (Addr × Obj)} {u v : Value} {t1 t2 : Tok} {n : Nat} : ∀ A B, TrIn rest u A → TrIn rest v B → A.ok → B.ok → ∃ C : Tr, TrIn ((D, tup [.str (Str.ofString "two") t1, .str (Str.ofString "+") t2, u, v] n) :: rest) (.ref D) C ∧ C.leaves = A.leaves + B.leaves ∧ C.ok :=
  fun A B hA hB a b => ⟨.add A B, .add (.head _) (hA.mono fun _ h => .tail _ h) (hB.mono fun _ h => .tail _ h), rfl, a, b⟩
theorem C_sub {D : Addr} {rest : List (Addr × Obj)} {u v : Value} {t1 t2 : Tok} {n : Nat} : ∀ A B, TrIn rest u A → TrIn rest v B → A.ok → B.ok → ∃ C : Tr, TrIn ((D, tup [.str (Str.ofString "two") t1, .str (Str.ofString "-") t2, u, v] n) :: rest) (.ref D) C ∧ C.leaves = A.leaves + B.leaves ∧ C.ok :=
  fun A B hA hB a b => ⟨.sub A B, .sub (.head _) (hA.mono fun _ h => .tail _ h) (hB.mono fun _ h => .tail _ h), rfl, a, b⟩
theorem C_mul {D : Addr} {rest : List (Addr × Obj)} {u v : Value} {t1 t2 : Tok} {n : Nat} : ∀ A B, TrIn rest u A → TrIn rest v B → A.ok → B.ok → ∃ C : Tr, TrIn ((D, tup [.str (Str.ofString "two") t1, .str (Str.ofString "*") t2, u, v] n) :: rest) (.ref D) C ∧ C.leaves = A.leaves + B.leaves ∧ C.ok :=
  fun A B hA hB a b => ⟨.mul A B, .mul (.head _) (hA.mono fun _ h => .tail _ h) (hB.mono fun _ h => .tail _ h), rfl, a, b⟩
theorem mulL {a b : Int} (h : -4611686018427387904 ≤ a ∧ a ≤ 4611686018427387904) : IntMulOk a b := IntMulOk.of_left (intBits_le_64 (by omega) (by omega))
theorem mulR {a b : Int} (h : -4611686018427387904 ≤ b ∧ b ≤ 4611686018427387904) : IntMulOk a b := IntMulOk.of_right (intBits_le_64 (by omega) (by omega))
section
variable {prog : Program} {w : World} {A : Around} {E : Value → Shared → Prop} {s : Shared} {h₀ : Heap} {L l : Addr} {news : List (Addr × Obj)} {vs : List Value} {n : Nat} {Q : Value → Shared → Prop}
theorem len_L (N : News h₀ L s.heap news) (hm : (l, listOf vs.toArray n) ∈ news) (hz : vs.length ≤ 1000000) (h : Q (.int (vs.length : Int) (s.toks + 1)) { s with toks := s.toks + 1 + 1 }) :
    wpAny (model prog w) A (call (.builtin "len") [.ref l]) Q E s :=
  PyProof.Rows.len_list (News.isList N hm) (by rw [List.size_toArray]; omega) (by rw [List.size_toArray]; exact h)
theorem len_I {ns : List Int} (N : News h₀ L s.heap news) (hm : (l, listOf vs.toArray n) ∈ news) (hi : IntsAre vs ns) (hz : ns.length ≤ 1000000) (h : Q (.int (ns.length : Int) (s.toks + 1)) { s with toks := s.toks + 1 + 1 }) :
    wpAny (model prog w) A (call (.builtin "len") [.ref l]) Q E s :=
  len_L N hm (by rw [hi.length]; exact hz) (by rw [hi.length]; exact h)
end
section
variable {prog : Program} {w : World} {A : Around} {E : Value → Shared → Prop} {s : Shared} {a b : Int} {t u : Tok} {Q : Value → Shared → Prop}
theorem abs_pos (ha : 0 ≤ a) (h : ∀ u tk, Q (.int a u) { s with toks := tk }) : wpAny (model prog w) A (call (.builtin "abs") [.int a t]) Q E s :=
  call_abs_int fun u tk => by rw [if_neg (by omega)]; exact h u tk
theorem abs_neg (ha : a < 0) (h : ∀ u tk, Q (.int (-a) u) { s with toks := tk }) : wpAny (model prog w) A (call (.builtin "abs") [.int a t]) Q E s :=
  call_abs_int fun u tk => by rw [if_pos ha]; exact h u tk
end
end PartB1
local macro_rules | `(tactic| k_mem) => `(tactic| first | exact List.Mem.head _ | assumption | (refine List.mem_cons_of_mem _ ?_; k_mem))
local macro_rules | `(tactic| tb_start) => `(tactic| first
  | exact fun _ h => h
  | assumption
  | ((with_reducible refine sub_app ?_ ?_) <;> tb_start)
  | ((with_reducible refine sub_cons ?_ ?_) <;> first | k_mem | tb_start)
  | ((with_reducible refine sub_tail ?_); tb_start)
  | ((with_reducible refine sub_inl ?_); tb_start)
  | ((with_reducible refine sub_inr ?_); tb_start)
  | exact sub_nil)
local macro_rules | `(tactic| tb_rel) => `(tactic| first | assumption | exact TrIn.mono (by assumption) (by tb_start))
section PartS1
theorem slope_call {w : World} {mean : ExcName → Option Value} {mg mb : Str → Option Value} {T : Tr} : ∀ {news : List (Addr × Obj)} {v : Value}, TrIn news v T →
    Call w mean mg mb 407 [v] T.size news fun led r => ∃ tl, led = news ++ tl ∧ Tups tl ∧ TrIn led r T.slope := by
  induction T with
  | x =>
    intro news v R
    unfold Call
    k_fill
    intro dp un gd cn cs a ccd cl outer A₀ base h₀ L m s Q E B F X N TT hk hd hu hret
    cases R
    refine wpAny_call ?_
    simp only [Tr.size] at *
    k_dflt ktr_enter
    k_with_none
    k_steps
    (rename News _ _ _ _ => N9)
    obtain ⟨tl, t1, t2, t3⟩ := news_tups (news := news) N9 (by tb_start) (TrIn.num (List.Mem.head _))
    exact hret _ _ _ _ (by assumption) t2 ⟨tl, rfl, t1, t3⟩
  | num k =>
    intro news v R
    unfold Call
    k_fill
    intro dp un gd cn cs a ccd cl outer A₀ base h₀ L m s Q E B F X N TT hk hd hu hret
    cases R
    refine wpAny_call ?_
    simp only [Tr.size] at *
    k_dflt ktr_enter
    k_with_none
    k_steps
    (rename News _ _ _ _ => N9)
    obtain ⟨tl, t1, t2, t3⟩ := news_tups (news := news) N9 (by tb_start) (TrIn.num (List.Mem.head _))
    exact hret _ _ _ _ (by assumption) t2 ⟨tl, rfl, t1, t3⟩
  | add A1 B1 ihA ihB =>
    intro news v R
    unfold Call
    k_fill
    intro dp un gd cn cs a ccd cl outer A₀ base h₀ L m s Q E B F X N TT hk hd hu hret
    cases R
    refine wpAny_call ?_
    simp only [Tr.size] at *
    k_dflt ktr_enter
    k_with_none
    k_with "call ref" => first
      | (refine' Call.use ?k1 ?k2 ?k3 ?k4 ?k5 ?k6 (ihA ?R) ?k7 ?k8 ?_; (case k1 => k_asm); (case k2 => k_asm); (case k3 => k_asm); (case k4 => k_asm); (case R => tb_rel); (case k5 => k_asm); (case k6 => exact rfl); (case k7 => ktr_room); (case k8 => ktr_units); intro r9 led9 h9 tk9 F9 N9 P9; refine Exists.elim P9 ?_; clear P9; intro tl9 P9; obtain ⟨e9, T9, R9⟩ := P9; subst e9; (try simp only [List.cons_append, List.append_assoc] at N9 R9); (try dsimp only); (try k_fold))
      | (refine' Call.use ?k1 ?k2 ?k3 ?k4 ?k5 ?k6 (ihB ?R) ?k7 ?k8 ?_; (case k1 => k_asm); (case k2 => k_asm); (case k3 => k_asm); (case k4 => k_asm); (case R => tb_rel); (case k5 => k_asm); (case k6 => exact rfl); (case k7 => ktr_room); (case k8 => ktr_units); intro r9 led9 h9 tk9 F9 N9 P9; refine Exists.elim P9 ?_; clear P9; intro tl9 P9; obtain ⟨e9, T9, R9⟩ := P9; subst e9; (try simp only [List.cons_append, List.append_assoc] at N9 R9); (try dsimp only); (try k_fold))
    k_steps
    (rename News _ _ _ _ => N9)
    obtain ⟨tl, t1, t2, t3⟩ := news_tups (news := news) N9 (by tb_start) (TrIn.add (List.Mem.head _) (by tb_rel) (by tb_rel))
    exact hret _ _ _ _ (by assumption) t2 ⟨tl, rfl, t1, t3⟩
  | sub A1 B1 ihA ihB =>
    intro news v R
    unfold Call
    k_fill
    intro dp un gd cn cs a ccd cl outer A₀ base h₀ L m s Q E B F X N TT hk hd hu hret
    cases R
    refine wpAny_call ?_
    simp only [Tr.size] at *
    k_dflt ktr_enter
    k_with_none
    k_with "call ref" => first
      | (refine' Call.use ?k1 ?k2 ?k3 ?k4 ?k5 ?k6 (ihA ?R) ?k7 ?k8 ?_; (case k1 => k_asm); (case k2 => k_asm); (case k3 => k_asm); (case k4 => k_asm); (case R => tb_rel); (case k5 => k_asm); (case k6 => exact rfl); (case k7 => ktr_room); (case k8 => ktr_units); intro r9 led9 h9 tk9 F9 N9 P9; refine Exists.elim P9 ?_; clear P9; intro tl9 P9; obtain ⟨e9, T9, R9⟩ := P9; subst e9; (try simp only [List.cons_append, List.append_assoc] at N9 R9); (try dsimp only); (try k_fold))
      | (refine' Call.use ?k1 ?k2 ?k3 ?k4 ?k5 ?k6 (ihB ?R) ?k7 ?k8 ?_; (case k1 => k_asm); (case k2 => k_asm); (case k3 => k_asm); (case k4 => k_asm); (case R => tb_rel); (case k5 => k_asm); (case k6 => exact rfl); (case k7 => ktr_room); (case k8 => ktr_units); intro r9 led9 h9 tk9 F9 N9 P9; refine Exists.elim P9 ?_; clear P9; intro tl9 P9; obtain ⟨e9, T9, R9⟩ := P9; subst e9; (try simp only [List.cons_append, List.append_assoc] at N9 R9); (try dsimp only); (try k_fold))
    k_steps
    (rename News _ _ _ _ => N9)
    obtain ⟨tl, t1, t2, t3⟩ := news_tups (news := news) N9 (by tb_start) (TrIn.sub (List.Mem.head _) (by tb_rel) (by tb_rel))
    exact hret _ _ _ _ (by assumption) t2 ⟨tl, rfl, t1, t3⟩
  | mul A1 B1 ihA ihB =>
    intro news v R
    unfold Call
    k_fill
    intro dp un gd cn cs a ccd cl outer A₀ base h₀ L m s Q E B F X N TT hk hd hu hret
    cases R
    refine wpAny_call ?_
    simp only [Tr.size] at *
    k_dflt ktr_enter
    k_with_none
    k_with "call ref" => first
      | (refine' Call.use ?k1 ?k2 ?k3 ?k4 ?k5 ?k6 (ihA ?R) ?k7 ?k8 ?_; (case k1 => k_asm); (case k2 => k_asm); (case k3 => k_asm); (case k4 => k_asm); (case R => tb_rel); (case k5 => k_asm); (case k6 => exact rfl); (case k7 => ktr_room); (case k8 => ktr_units); intro r9 led9 h9 tk9 F9 N9 P9; refine Exists.elim P9 ?_; clear P9; intro tl9 P9; obtain ⟨e9, T9, R9⟩ := P9; subst e9; (try simp only [List.cons_append, List.append_assoc] at N9 R9); (try dsimp only); (try k_fold))
      | (refine' Call.use ?k1 ?k2 ?k3 ?k4 ?k5 ?k6 (ihB ?R) ?k7 ?k8 ?_; (case k1 => k_asm); (case k2 => k_asm); (case k3 => k_asm); (case k4 => k_asm); (case R => tb_rel); (case k5 => k_asm); (case k6 => exact rfl); (case k7 => ktr_room); (case k8 => ktr_units); intro r9 led9 h9 tk9 F9 N9 P9; refine Exists.elim P9 ?_; clear P9; intro tl9 P9; obtain ⟨e9, T9, R9⟩ := P9; subst e9; (try simp only [List.cons_append, List.append_assoc] at N9 R9); (try dsimp only); (try k_fold))
    k_steps
    (rename News _ _ _ _ => N9)
    obtain ⟨tl, t1, t2, t3⟩ := news_tups (news := news) N9 (by tb_start) (TrIn.add (List.Mem.head _) (TrIn.mul (by k_mem) (by tb_rel) (by tb_rel)) (TrIn.mul (by k_mem) (by tb_rel) (by tb_rel)))
    exact hret _ _ _ _ (by assumption) t2 ⟨tl, rfl, t1, t3⟩
end PartS1
local macro_rules | `(tactic| k_all) => `(tactic| assumption)
section PartR1
theorem rising_call {w : World} {mean : ExcName → Option Value} {mg mb : Str → Option Value} {rest : List (Addr × Obj)} {bag il : Addr} {vs : List Value} {ns : List Int} {n ni : Nat} {sp k : Int} {t tk : Tok}
    (hi : IntsAre vs ns) (hlen : ns.length ≤ 100) (h0 : 0 ≤ sp) (h1 : sp ≤ 1000) (hk0 : 0 < k) (hk1 : k ≤ 1000) (hbi : @Ne Nat bag il) (hr : ∀ p ∈ rest, p.1 ≠ bag) :
    Call w mean mg mb 393 [.ref bag, .int k tk] 5 ((bag, listOf #[.ref il, .int sp t] n) :: (il, listOf vs.toArray ni) :: rest) fun led r =>
      ∃ t' i tr, led = (bag, listOf #[.ref il, .int (sp + 1) t'] n) :: (il, listOf vs.toArray ni) :: rest ∧ r = .int i tr ∧ 0 ≤ i ∧ i < k := by
  unfold Call
  k_fill
  intro dp un gd cn cs a ccd cl outer A₀ base h₀ L m s Q E B F X N TT hk hd hu hret
  refine wpAny_call ?_
  k_dflt ktr_enter
  k_with_none
  k_steps
  all_goals (
    (rename News _ _ _ _ => N9)
    exact hret _ _ _ _ (by assumption) N9 ⟨_, _, _, rfl, rfl, Int.fmod_nonneg_of_pos _ hk0, Int.fmod_lt_of_pos _ hk0⟩)
end PartR1
local macro_rules | `(tactic| ktn_open) => `(tactic| (repeat ((with_reducible rename (_ ∧ _) => c9); obtain ⟨_, _⟩ := c9)))
local macro_rules | `(tactic| walk_at "binaryOp Add ref ref") => `(tactic| (k_here; k_dflt ((refine' kmk_add_lit ?F ?N ?a ?b ?e ?_ ?z; (case F => k_asm); (case N => k_asm); (case a => kmk_list); (case b => kmk_list); (case e => exact cat_lit); (case z => (simp only [List.toList_toArray, List.length_append, List.length_cons, List.length_nil, sizeLine_eq]; omega))); intro D' h' F' N' l1; (try k_lt l1); (try k_sweep))))
section PartT1
local macro_rules | `(tactic| k_all) => `(tactic| first | assumption | exact OwnOff.ne (by assumption) (by k_memK) | (refine off_app ?_ ?_ <;> k_all))
-- the facts of order, one by one
local macro_rules | `(tactic| walk_at "exec For Name Tuple cons nil") => `(tactic| ((rename Fr _ _ _ _ => lF'); (with_unfolding_all refine' For_invVF lF' ?k1 ?k2 ?_; (case k1 => exact rfl); (case k2 => exact rfl); k_whole)))
local macro_rules | `(tactic| walk_at "exec For Name Call cons nil") => `(tactic| ((rename Fr _ _ _ _ => lF'); (with_unfolding_all refine' For_invVF lF' ?k1 ?k2 ?_; (case k1 => exact rfl); (case k2 => exact rfl); k_whole)))
local macro_rules | `(tactic| walk_at "subscriptTail Name Slice ref ref") => `(tactic| (k_here; k_dflt ((refine' kms_slice_lit ?F ?N ?l ?p ?q ?e ?_ ?s ?t ?z; (case F => k_asm); (case N => k_asm); (case l => kmk_list); (case p => kmk_part); (case q => kmk_part); (case e => first | exact pick_to (by omega) | exact pick_from2 (by omega)); (case s => with_unfolding_all rfl); (case t => kmk_pure); (case z => (simp only [List.size_toArray, List.length_append, List.length_cons, sizeLine_eq]; omega))); intro D' h' F' N' l1; (try k_lt l1); (try k_sweep))))
local macro_rules | `(tactic| walk_at "subscriptTail Name Name ref int") => `(tactic| (k_here; k_dflt (refine' item_listL ?l ?a ?b ?x ?_; (case l => kmk_list); (case a => omega); (case b => omega); (case x => first | exact get_u (by omega) | exact get_v (by omega)))))
local macro_rules | `(tactic| walk_at "subscriptTail Name BinOp ref int") => `(tactic| (k_here; k_dflt (refine' item_listL ?l ?a ?b ?x ?_; (case l => kmk_list); (case a => omega); (case b => omega); (case x => first | exact get_u (by omega) | exact get_v (by omega)))))
def J1 (bag il : Addr) (vs : List Value) (nb ni : Nat) (i : Nat) (m : Str → Option Value) (nx : List (Addr × Obj)) : Prop :=
  ∃ (row : Addr) (sp : Int) (t : Tok) (vals : List Value) (n : Nat) (rest : List (Addr × Obj)) (Ts : List Tr), nx = (bag, listOf #[.ref il, .int sp t] nb) :: (il, listOf vs.toArray ni) :: (row, listOf vals.toArray n) :: rest ∧
    m (Str.ofString "bag") = some (.ref bag) ∧ m (Str.ofString "row") = some (.ref row) ∧ TrsIn rest vals Ts ∧ Ts.length = i ∧ (∀ T ∈ Ts, T.leaves = 1 ∧ T.ok) ∧ 0 ≤ sp ∧ sp ≤ 20 + 2 * (i : Int) ∧ (∀ p ∈ rest, p.1 ≠ bag) ∧ (∀ p ∈ rest, p.1 ≠ row) ∧ @Ne Nat bag row ∧ @Ne Nat il row
theorem J1_end {h₀ h' : Heap} {L bag il row D : Addr} {o : Obj} {m' : Str → Option Value} {vs vals : List Value} {nb ni n : Nat} {rest own : List (Addr × Obj)} {Ts : List Tr} {T : Tr} {sp : Int} {t : Tok} {i tk : Nat} {s₁ : Shared}
    (F : Fr h₀ L h' m') (N : News h₀ L h' ((D, o) :: (bag, listOf #[.ref il, .int sp t] nb) :: (il, listOf vs.toArray ni) :: (row, listOf (List.toArray (vals ++ [Value.ref D] : List Value)) n) :: (rest ++ own)))
    (hb : m' (Str.ofString "bag") = some (.ref bag)) (hrw : m' (Str.ofString "row") = some (.ref row)) (hT : TrsIn rest vals Ts) (hR : TrIn [(D, o)] (.ref D) T) (h1 : T.leaves = 1) (h2 : T.ok) (hTl : Ts.length = i) (hTs : ∀ T ∈ Ts, T.leaves = 1 ∧ T.ok)
    (h0 : 0 ≤ sp) (hs : sp ≤ 20 + 2 * ((i + 1 : Nat) : Int)) (hd1 : ∀ p ∈ rest, p.1 ≠ bag) (hd2 : ∀ p ∈ rest, p.1 ≠ row) (hd3 : @Ne Nat bag row) (hd4 : @Ne Nat il row) (hoff : OwnOff own (bag :: il :: row :: rest.map (·.1)))
    (l1 : @LT.lt Nat _ bag D) (l3 : @LT.lt Nat _ row D) (l4 : AllLt D (rest ++ own)) : InvEndG h₀ L (J1 bag il vs nb ni (i + 1)) own s₁ { s₁ with heap := h', toks := tk } := by
  have lt := ktn_ltOf l4
  refine ⟨h', tk, m', _, (bag, listOf #[.ref il, .int sp t] nb) :: (il, listOf vs.toArray ni) :: (row, listOf (List.toArray (vals ++ [Value.ref D] : List Value)) n) :: ((D, o) :: rest), rfl, F, N, ?_, ?_, ?_, row, sp, t, (vals ++ [Value.ref D] : List Value), n, (D, o) :: rest, (Ts ++ [T] : List Tr), rfl, hb, hrw, ?_, by simp [hTl], ?_, h0, hs, ?_, ?_, hd3, hd4⟩
  · tb_start
  · tb_start
  · intro p hp b hb'
    simp only [List.map_cons, List.mem_cons] at hb'
    rcases hb' with e | e | e | e | e
    · exact hoff p hp b (by simp [e])
    · exact hoff p hp b (by simp [e])
    · exact hoff p hp b (by simp [e])
    · rw [e]
      exact Nat.ne_of_lt (lt p (List.mem_append.mpr (.inr hp)))
    · exact hoff p hp b (by simp [e])
  · exact (hT.mono fun p hp => .tail _ hp).append (.cons (hR.mono fun p hp => by rw [List.mem_singleton.mp hp]; exact .head _) .nil)
  · intro T' h'
    rcases List.mem_append.mp h' with h' | h'
    · exact hTs T' h'
    · rw [List.mem_singleton.mp h']; exact ⟨h1, h2⟩
  · intro p hp
    rcases List.mem_cons.mp hp with rfl | hp
    · exact (Nat.ne_of_lt l1).symm
    · exact hd1 p hp
  · intro p hp
    rcases List.mem_cons.mp hp with rfl | hp
    · exact (Nat.ne_of_lt l3).symm
    · exact hd2 p hp
theorem one_left {led : List (Addr × Obj)} {vals : List Value} {Ts : List Tr} (h : TrsIn led vals Ts) (hl : Ts.length + 4 = 5) (hok : ∀ T ∈ Ts, T.ok) (hs : (Ts.map Tr.leaves).sum = 5) : ∃ v T, vals = [v] ∧ TrIn led v T ∧ T.leaves = 5 ∧ T.ok := by
  cases h with
  | nil => simp at hl
  | cons a b => cases b with
    | nil => exact ⟨_, _, rfl, a, by simpa using hs, hok _ (.head _)⟩
    | cons c d => simp at hl
theorem leaves_one : ∀ {Ts : List Tr} {n : Nat}, (∀ T ∈ Ts, T.leaves = 1 ∧ T.ok) → Ts.length = n → (Ts.map Tr.leaves).sum = n
  | [], _, _, h => h
  | T :: r, n, h, e => by
    have := leaves_one (Ts := r) (fun T hT => h T (.tail _ hT)) rfl
    have h1 := (h T (.head _)).1
    simp only [List.map_cons, List.sum_cons, List.length_cons] at *
    omega
theorem tree_call {w : World} {mean : ExcName → Option Value} {mg mb : Str → Option Value} {rest : List (Addr × Obj)} {bag il : Addr} {vs : List Value} {ns : List Int} {nb ni : Nat} {sp : Int} {t : Tok}
    (hi : IntsAre vs ns) (hlen : ns.length ≤ 100) (h0 : 0 ≤ sp) (h1 : sp ≤ 20) (hbi : @Ne Nat bag il) (hr : ∀ p ∈ rest, p.1 ≠ bag) :
    Call w mean mg mb 400 [.ref bag] 20 ((bag, listOf #[.ref il, .int sp t] nb) :: (il, listOf vs.toArray ni) :: rest) fun led r =>
      ∃ T : Tr, T.leaves = 5 ∧ T.ok ∧ TrIn led r T := by
  unfold Call
  k_fill
  intro dp un gd cn cs a ccd cl outer A₀ base h₀ L m s Q E B F X N TT hk hd hu hret
  refine wpAny_call ?_
  k_dflt ktr_enter
  k_with_none
  k_with "call ref" => (refine' Call.use ?k1 ?k2 ?k3 ?k4 ?k5 ?k6 (rising_call ?ci ?clen ?c0 ?c1 ?ck0 ?ck1 ?cne ?cr) ?k7 ?k8 ?_; (case k1 => k_asm); (case k2 => k_asm); (case k3 => k_asm); (case k4 => k_asm); (case ci => assumption); (case clen => assumption); (case c0 => omega); (case c1 => omega); (case ck0 => omega); (case ck1 => omega); (case cne => assumption); (case cr => k_all); (case k5 => k_asm); (case k6 => exact rfl); (case k7 => ktr_room); (case k8 => ktr_units); intro r9 led9 h9 tk9 F9 N9 P9; refine Exists.elim P9 ?_; clear P9; intro t9 P9; refine Exists.elim P9 ?_; clear P9; intro i9 P9; refine Exists.elim P9 ?_; clear P9; intro tr9 P9; obtain ⟨e9, e9b, lo9, hi9⟩ := P9; subst e9; subst e9b; (try dsimp only); (try k_fold))
  repeat' ((fail_if_success (with_reducible show wpAny _ _ (pyIter (Value.ref _)) (fun it s₂ => LoopAtV _ _ _ _ _ _ _ _ _ it s₂) _ _)); first | (k_unfold; (try dsimp only)) | (k_end; wrow_close) | walk1 | (dsimp only; walk1) | (leave1; walk_say "STEP leave1"; try dsimp only) | fail "no step")
  · (rename IsRange _ _ _ _ _ _ _ _ => R9)
    (rename Fr _ _ _ _ => F9)
    (rename News _ _ _ _ => N9)
    ktn_open
    refine' rng_loop (n := 5) (J1 bag il vs nb ni) rfl R9 rfl rfl F9 ?N ?j ?turn ?done
    case j => exact ⟨_, sp, t, [], 0, rest, [], rfl, rfl, rfl, .nil, rfl, (fun _ h => nomatch h), h0, by omega, hr, allLt_ne (by assumption), by omega, by omega⟩
    case N =>
      intro p9 h9
      refine N9 p9 ?_
      revert p9
      tb_start
    case turn =>
      intro i t8 m₁ nx h8 tk8 own hi8 hoff hJ F8 N8
      obtain ⟨row, sp8, tt8, vals, n8, rest8, Ts, rfl, hb, hrw, hT, hTl, hTs, hs0, hs1, hd1, hd2, hd3, hd4⟩ := hJ
      replace F8 := fr_two hb hrw F8
      simp only [List.map_cons] at hoff
      simp only [List.cons_append] at N8
      have hvl := hT.length
      clear F9 N9
      k_with "call builtin:list.append" => ((with_reducible show wpAny _ _ (call (Value.builtin _) [Value.ref _, _]) _ _ _); (refine' app_L ?k1 ?k2 ?k3 ?z ?_; (case k1 => k_asm); (case k2 => k_asm); (case k3 => k_upd); (case z => omega)); intro h' F' N'; (try k_sweep))
      try k_fold
      repeat' (first | (k_unfold; (try dsimp only)) | (k_end; wrow_close) | walk1 | (dsimp only; walk1) | (leave1; walk_say "STEP leave1"; try dsimp only) | fail "no step")
      all_goals ((rename Fr _ _ _ _ => F7); (rename News _ _ _ _ => N7); ktn_open; simp only [List.push_toArray] at N7)
      · exact J1_end F7 N7 rfl rfl hT (.x (.head _)) rfl trivial hTl hTs (by omega) (by omega) hd1 hd2 hd3 hd4 hoff (by assumption) (by assumption) (by assumption)
      · exact J1_end F7 N7 rfl rfl hT (.num (.head _)) rfl ⟨by omega, by omega⟩ hTl hTs (by omega) (by omega) hd1 hd2 hd3 hd4 hoff (by assumption) (by assumption) (by assumption)
    case done =>
      intro m₁ nx h8 tk8 hJ F8 N8
      obtain ⟨row, sp8, tt8, vals, n8, rest8, Ts, rfl, hb, hrw, hT, hTl, hTs, hs0, hs1, hd1, hd2, hd3, hd4⟩ := hJ
      replace F8 := fr_two' hb hrw F8
      clear F9 N9
      try k_fold
      repeat' ((fail_if_success (with_reducible show wpAny _ _ (pyIter (Value.ref _)) (fun it s₂ => LoopAtV _ _ _ _ _ _ _ _ _ it s₂) _ _)); first | (k_unfold; (try dsimp only)) | (k_end; wrow_close) | walk1 | (dsimp only; walk1) | (leave1; walk_say "STEP leave1"; try dsimp only) | fail "no step")
      (rename Fr _ _ _ _ => F9)
      (rename News _ _ _ _ => N9)
      ktn_open
      refine' tup_loop (J2 bag il vs nb ni) ?hh ?ht ?F ?N ?sub ?ne ?j ?turn ?done
      case hh => rfl
      case F => exact F9
      case N => exact N9
      case j => exact ⟨row, sp8, tt8, vals, n8, rest8, Ts, rfl, rfl, rfl, hT, by omega, (fun T h => (hTs T h).2), leaves_one hTs hTl, hs0, by omega, hd1, hd3⟩
      case ht => k_mem
      case sub => tb_start
      case ne => k_all
      case turn =>
        intro i v m₁ nx h8 tk8 own hv hoff hJ F8 N8
        obtain ⟨k, kt, rfl, hk, hi4⟩ := four hv
        obtain ⟨row, sp8, tt8, vals, n8, rest8, Ts, rfl, hb, hrw, hT, hTl, hTs, hsum, hs0, hs1, hd1, hd3⟩ := hJ
        replace F8 := fr_two hb hrw F8
        simp only [List.map_cons] at hoff
        simp only [List.cons_append] at N8
        have hvl := hT.length
        try k_fold
        k_with_none
        k_with "call ref" =>
          (refine' Call.use ?k1 ?k2 ?k3 ?k4 ?k5 ?k6 (rising_call ?ci ?clen ?c0 ?c1 ?ck0 ?ck1 ?cne ?cr) ?k7 ?k8 ?_; (case k1 => k_asm); (case k2 => k_asm); (case k3 => k_asm); (case k4 => k_asm); (case ci => assumption); (case clen => assumption); (case c0 => omega); (case c1 => omega); (case ck0 => omega); (case ck1 => omega); (case cne => assumption); (case cr => k_all); (case k5 => k_asm); (case k6 => exact rfl); (case k7 => ktr_room); (case k8 => ktr_units); intro r9 led9 h9 tk9 F9 N9 P9; refine Exists.elim P9 ?_; clear P9; intro t9 P9; refine Exists.elim P9 ?_; clear P9; intro i9 P9; refine Exists.elim P9 ?_; clear P9; intro tr9 P9; obtain ⟨e9, e9b, lo9, hi9⟩ := P9; subst e9; subst e9b; (try dsimp only); (try k_fold))
          obtain ⟨pre, u, v, post, e8, hpl⟩ := cut_at (l := vals) (k := i9.toNat) (by omega)
          subst e8
          simp only [List.length_append, List.length_cons] at hvl
        k_with "call ref" =>
          (with_reducible show wpAny _ _ (PySem.call (Value.ref _) [Value.ref _, Value.int 4 _]) _ _ _)
          (refine' Call.use ?k1 ?k2 ?k3 ?k4 ?k5 ?k6 (rising_call ?ci ?clen ?c0 ?c1 ?ck0 ?ck1 ?cne ?cr) ?k7 ?k8 ?_; (case k1 => k_asm); (case k2 => k_asm); (case k3 => k_asm); (case k4 => k_asm); (case ci => assumption); (case clen => assumption); (case c0 => omega); (case c1 => omega); (case ck0 => omega); (case ck1 => omega); (case cne => assumption); (case cr => k_all); (case k5 => k_asm); (case k6 => exact rfl); (case k7 => ktr_room); (case k8 => ktr_units); intro r9 led9 h9 tk9 F9 N9 P9; refine Exists.elim P9 ?_; clear P9; intro t9 P9; refine Exists.elim P9 ?_; clear P9; intro i9 P9; refine Exists.elim P9 ?_; clear P9; intro tr9 P9; obtain ⟨e9, e9b, lo9, hi9⟩ := P9; subst e9; subst e9b; (try dsimp only); (try k_fold))
          rcases (show i9 = 0 ∨ i9 = 1 ∨ i9 = 2 ∨ i9 = 3 by omega) with rfl | rfl | rfl | rfl
        repeat' (first | (k_unfold; (try dsimp only)) | (k_end; wrow_close) | walk1 | (dsimp only; walk1) | (leave1; walk_say "STEP leave1"; try dsimp only) | fail "no step")
        all_goals ((rename Fr _ _ _ _ => F7); (rename News _ _ _ _ => N7); ktn_open)
        · exact J2_end F7 N7 (by k_mem) (by k_mem) (by k_mem) (by k_mem) (by tb_start) rfl rfl hT C_add hTl hTs hsum (by omega) (by omega) hd1 hoff (by assumption) (by assumption) (by assumption) (by assumption)
        · exact J2_end F7 N7 (by k_mem) (by k_mem) (by k_mem) (by k_mem) (by tb_start) rfl rfl hT C_sub hTl hTs hsum (by omega) (by omega) hd1 hoff (by assumption) (by assumption) (by assumption) (by assumption)
        · exact J2_end F7 N7 (by k_mem) (by k_mem) (by k_mem) (by k_mem) (by tb_start) rfl rfl hT C_mul hTl hTs hsum (by omega) (by omega) hd1 hoff (by assumption) (by assumption) (by assumption) (by assumption)
        · exact J2_end F7 N7 (by k_mem) (by k_mem) (by k_mem) (by k_mem) (by tb_start) rfl rfl hT C_mul hTl hTs hsum (by omega) (by omega) hd1 hoff (by assumption) (by assumption) (by assumption) (by assumption)
      case done =>
        intro m₁ nx h8 tk8 hJ F8 N8
        obtain ⟨row, sp8, tt8, vals, n8, rest8, Ts, rfl, hb, hrw, hT, hTl, hTs, hsum, hs0, hs1, hd1, hd3⟩ := hJ
        obtain ⟨v, T, rfl, hv, hl, hok⟩ := one_left hT hTl hTs hsum
        replace F8 := fr_two' hb hrw F8
        clear F9 N9
        try k_fold
        repeat' (first | (k_unfold; (try dsimp only)) | (k_end; wrow_close) | walk1 | (dsimp only; walk1) | (leave1; walk_say "STEP leave1"; try dsimp only) | fail "no step")
        (rename Fr _ _ _ _ => F7)
        (rename News _ _ _ _ => N7)
        exact hret _ _ _ _ F7 N7 ⟨T, hl, hok, hv.mono (by tb_start)⟩
end PartT1
local macro_rules | `(tactic| walk_at "binaryOp Mult int int") => `(tactic| (k_here; k_dflt (first | refine mul_int ?_ (mulR (by omega)) | refine mul_int ?_ (mulL (by omega)))))
local macro_rules | `(tactic| walk_at "call builtin:len") => `(tactic| (k_here; (with_reducible show wpAny _ _ (call (Value.builtin "len") [Value.ref _]) _ _ _); k_dflt (refine' len_I ?k1 ?k2 ?k3 ?k4 ?_; (case k1 => k_asm); (case k2 => k_mem); (case k3 => assumption); (case k4 => omega))))
section PartL1
local macro_rules | `(tactic| walk_at "exec For Name Subscript cons nil") => `(tactic| ((rename Fr _ _ _ _ => lF'); (with_unfolding_all refine' For_invVF lF' ?k1 ?k2 ?_; (case k1 => exact rfl); (case k2 => exact rfl); k_whole)))

theorem lowered_call {w : World} {mean : ExcName → Option Value} {mg mb : Str → Option Value} {news : List (Addr × Obj)} {rw₁ : Addr} {vs : List Value} {ns : List Int} {n : Nat}
    (hm : (rw₁, listOf vs.toArray n) ∈ news) (hi : IntsAre vs ns) (hlen : ns.length ≤ 100) :
    Call w mean mg mb 419 [.ref rw₁] 5 news fun led r => ∃ a ys m, led = (a, listOf ys.toArray m) :: news ∧ r = .ref a ∧ IntsAre ys (List.map (fun k => k * ns.getD k.toNat 0) (rangeKs 1 ((ns.length : Int) - 1).toNat)) := by
  unfold Call
  k_fill
  intro dp un gd cn cs a ccd cl outer A₀ base h₀ L m s Q E B F X N TT hk hd hu hret
  refine wpAny_call ?_
  k_dflt (refine' code_defC ?k1 ?k2 ?k3 ?k4 ?k5 ?kA ?kF ?kK ?k6 ?k7 ?k8 ?k9 ?kB ?kD ?_ ?c2 ?c3 ?c4; (case kA => exact rfl); (case kF => exact rfl); (case kK => assumption); (case k1 => k_asm); (case k2 => k_asm); (case k3 => k_asm); (case k4 => k_asm); (case k5 => k_asm); (case k6 => k_is); (case k7 => k_is); (case k8 => ktr_room); (case k9 => exact BindsTo.of_eq rfl); (case kB => exact rfl); (case kD => decide +kernel); (case c2 => exact rfl); (case c3 => exact rfl); (case c4 => exact rfl); k_whole; intro g' L' h' tk' cells' FG' F' N' Y' B' X' T' l1; (try k_lt l1); k_cells Y'; (try simp only [List.cons_append, List.nil_append] at N'); (try dsimp only); (try k_fold))
  k_with_none
  k_steps
  (rename Fr _ _ _ _ => F7)
  (rename News _ _ _ _ => N7)
  (rename IntsAre _ _ => I7)
  exact hret _ _ _ _ F7 (fun p hp => N7 p ((by tb_start : ∀ q ∈ (_, LCg.lst _) :: news, q ∈ _) p hp)) ⟨_, _, _, rfl, rfl, I7⟩
theorem summed_call {w : World} {mean : ExcName → Option Value} {mg mb : Str → Option Value} {news : List (Addr × Obj)} {rw₁ : Addr} {vs : List Value} {ns : List Int} {n : Nat} {p : Int} {tp : Tok}
    (hm : (rw₁, listOf vs.toArray n) ∈ news) (hi : IntsAre vs ns) (hlen : ns.length ≤ 100) (hp : -20 ≤ p ∧ p ≤ 20) :
    Call w mean mg mb 426 [.ref rw₁, .int p tp] 5 news fun led r => led = news ∧ ∃ t, r = .int (ns.reverse.foldl (fun a c => a * p + c) 0) t := by
  unfold Call
  k_fill
  intro dp un gd cn cs a ccd cl outer A₀ base h₀ L m s Q E B F X N TT hk hd hu hret
  refine wpAny_call ?_
  k_dflt ktr_enter
  k_with_none
  repeat' ((fail_if_success (with_reducible show wpAny _ _ (pyIter (Value.ref _)) (fun it s₂ => LoopAtV _ _ _ _ _ _ _ _ _ it s₂) _ _)); first | (k_unfold; (try dsimp only)) | (k_end; wrow_close) | walk1 | (dsimp only; walk1) | (leave1; walk_say "STEP leave1"; try dsimp only) | fail "no step")
  (rename Fr _ _ _ _ => F9)
  (rename News _ _ _ _ => N9)
  refine' iter_acc1L (y := Str.ofString "found") (a₀ := 0) (fun a c => a * p + c) ?hyx ?hh ?hl ?hi ?F ?N ?hy ?turn ?done
  case hyx => decide
  case hh => rfl
  case F => exact F9
  case N => exact N9
  case hl => k_mem
  case hi => assumption
  case hy => exact ⟨_, rfl⟩
  case turn =>
    intro c t8 a8 ta8 h8 tk8 own _ hoff F8 N8
    clear F9 N9
    try k_fold
    repeat' (first | (k_unfold; (try dsimp only)) | (k_end; wrow_close) | walk1 | (dsimp only; walk1) | (leave1; walk_say "STEP leave1"; try dsimp only) | fail "no step")
    (rename Fr _ _ _ _ => F7)
    (rename News _ _ _ _ => N7)
    exact InvEndN.intro F7 N7 ⟨rfl, ⟨_, rfl⟩, by k_same2⟩ rfl (fun p hp => List.mem_append.mpr (.inl hp)) (fun p hp => List.mem_append.mpr (.inr hp))
  case done =>
    intro u t8 h8 tk8 F8 N8
    clear F9 N9
    dsimp only
    try k_fold
    repeat' (first | (k_unfold; (try dsimp only)) | (k_end; wrow_close) | walk1 | (dsimp only; walk1) | (leave1; walk_say "STEP leave1"; try dsimp only) | fail "no step")
    (rename Fr _ _ _ _ => F7)
    (rename News _ _ _ _ => N7)
    exact hret _ _ _ _ F7 (fun p hp => N7 p (.tail _ hp)) ⟨rfl, _, rfl⟩
end PartL1
section PartInl
local macro_rules | `(tactic| walk_at "call ref") => `(tactic| (k_here; refine wpAny_call ?_; k_dflt (refine' code_def ?k1 ?k2 ?k3 ?k4 ?k5 ?kA ?kF ?kK ?k6 ?k7 ?k8 ?k9 ?kB ?_ ?c2 ?c3 ?c4 ?c5; (case kA => exact rfl); (case kF => exact rfl); (case kK => first | exact rfl | assumption); (case k1 => k_asm); (case k2 => k_asm); (case k3 => k_asm); (case k4 => k_asm); (case k5 => k_asm); (case k6 => k_is); (case k7 => k_is); (case k8 => ktr_room); (case k9 => first | exact BindsTo.of_eq rfl | exact binds_K (by k_in) rfl (by k_is) rfl rfl rfl); (case c5 => decide); (case kB => exact locs rfl); (case c2 => exact rfl); (case c3 => exact rfl); (case c4 => exact rfl); k_whole; intro g' L' h' FG' F' N' B' X' T'; (try dsimp only); (try k_fold))))
local macro_rules | `(tactic| walk_at "ite") => `(tactic| k_dflt (first
  | (refine PySem.W.ite_neg (by first | (intro h7; (try simp only [beq_iff_eq, bne_iff_ne, ne_eq, decide_eq_true_eq, Bool.not_eq_true', decide_eq_false_iff_not, beq_eq_false_iff_ne, Int.reduceSub, Int.reduceToNat, Int.reducePow, Int.reduceMul, Int.reduceNeg] at h7); omega) | (simp (disch := omega) only [decide_eq_true, decide_eq_false]; decide)) ?_)
  | (refine PySem.W.ite_pos (by first | ((try simp only [beq_iff_eq, bne_iff_ne, ne_eq, decide_eq_true_eq, Bool.not_eq_true', decide_eq_false_iff_not, beq_eq_false_iff_ne, Int.reduceSub, Int.reduceToNat, Int.reducePow, Int.reduceMul, Int.reduceNeg]); omega) | (simp (disch := omega) only [decide_eq_true, decide_eq_false]; decide)) ?_)))
theorem whole_is {w : World} {mean : ExcName → Option Value} {mg mb : Str → Option Value} {news : List (Addr × Obj)} {n : Int} {t1 : Tok} :
    Call w mean mg mb 185 [.int n t1] 2 news fun led r => led = news ∧ r = .bool true := by
  unfold Call
  k_fill
  intro dp un gd cn cs a₁ ccd cl outer A₀ base h₀ L m s Q E B F X N TT hk hd₁ hu hret
  refine wpAny_call ?_
  k_dflt ktr_enter
  k_with_none
  k_steps
  (rename Fr _ _ _ _ => F7)
  (rename News _ _ _ _ => N7)
  exact hret _ _ _ _ F7 N7 ⟨rfl, rfl⟩
theorem kind_is {w : World} {mean : ExcName → Option Value} {mg mb : Str → Option Value} {news : List (Addr × Obj)} {n : Int} {t1 : Tok} :
    Call w mean mg mb 44 [.int n t1] 2 news fun led r => led = news ∧ ∃ t, r = .str (Str.ofString "whole") t := by
  unfold Call
  k_fill
  intro dp un gd cn cs a₁ ccd cl outer A₀ base h₀ L m s Q E B F X N TT hk hd₁ hu hret
  refine wpAny_call ?_
  k_dflt ktr_enter
  k_with_none
  k_steps
  (rename Fr _ _ _ _ => F7)
  (rename News _ _ _ _ => N7)
  exact hret _ _ _ _ F7 N7 ⟨rfl, _, rfl⟩
theorem fits_is {w : World} {mean : ExcName → Option Value} {mg mb : Str → Option Value} {news : List (Addr × Obj)} {n : Int} {t1 t2 : Tok} (hn : -2147483648 ≤ n ∧ n < 2147483648) :
    Call w mean mg mb 79 [.int n t1, .int 32 t2] 2 news fun led r => led = news ∧ r = .bool true := by
  unfold Call
  k_fill
  intro dp un gd cn cs a₁ ccd cl outer A₀ base h₀ L m s Q E B F X N TT hk hd₁ hu hret
  refine wpAny_call ?_
  k_dflt ktr_enter
  k_with_none
  k_steps
  (rename Fr _ _ _ _ => F7)
  (rename News _ _ _ _ => N7)
  exact hret _ _ _ _ F7 N7 ⟨rfl, congrArg Value.bool (decide_eq_true (by simp only [Int.reduceSub, Int.reduceToNat, Int.reducePow, Int.reduceMul, Int.reduceNeg]; omega))⟩
theorem settled_is {w : World} {mean : ExcName → Option Value} {mg mb : Str → Option Value} {news : List (Addr × Obj)} {n : Int} {t1 t2 t3 : Tok} (hn : -2147483648 ≤ n ∧ n < 2147483648) :
    Call w mean mg mb 192 [.int n t1, .int 32 t2, .int 9 t3] 4 news fun led r => led = news ∧ ∃ t, r = .int n t := by
  unfold Call
  k_fill
  intro dp un gd cn cs a₁ ccd cl outer A₀ base h₀ L m s Q E B F X N TT hk hd₁ hu hret
  refine wpAny_call ?_
  k_dflt ktr_enter
  k_with_none
  repeat' (first | (k_unfold; (try dsimp only)) | (k_end; kc_close) | ((with_reducible show wpAny _ _ (PySem.call (Value.ref 79) _) _ _ _); k_dflt ((refine' Call.use ?k1 ?k2 ?k3 ?k4 ?k5 ?k6 (fits_is ?hq) ?k7 ?k8 ?_; (case k1 => k_asm); (case k2 => k_asm); (case k3 => k_asm); (case k4 => k_asm); (case hq => first | assumption | omega); (case k5 => k_asm); (case k6 => exact rfl); (case k7 => ktr_room); (case k8 => ktr_units); intro r9 led9 h9 tk9 F9 N9 P9; obtain ⟨e9, e9b⟩ := P9; replace e9 := e9.symm; subst e9; (try (refine Exists.elim e9b ?_; clear e9b; intro t9 e9b)); subst e9b; (try dsimp only); (try k_fold)))) | ((with_reducible show wpAny _ _ (PySem.call (Value.ref 44) _) _ _ _); k_dflt ((refine' Call.use ?k1 ?k2 ?k3 ?k4 ?k5 ?k6 kind_is ?k7 ?k8 ?_; (case k1 => k_asm); (case k2 => k_asm); (case k3 => k_asm); (case k4 => k_asm); (case k5 => k_asm); (case k6 => exact rfl); (case k7 => ktr_room); (case k8 => ktr_units); intro r9 led9 h9 tk9 F9 N9 P9; obtain ⟨e9, e9b⟩ := P9; replace e9 := e9.symm; subst e9; (try (refine Exists.elim e9b ?_; clear e9b; intro t9 e9b)); subst e9b; (try dsimp only); (try k_fold)))) | ((with_reducible show wpAny _ _ (PySem.call (Value.ref 185) _) _ _ _); k_dflt ((refine' Call.use ?k1 ?k2 ?k3 ?k4 ?k5 ?k6 whole_is ?k7 ?k8 ?_; (case k1 => k_asm); (case k2 => k_asm); (case k3 => k_asm); (case k4 => k_asm); (case k5 => k_asm); (case k6 => exact rfl); (case k7 => ktr_room); (case k8 => ktr_units); intro r9 led9 h9 tk9 F9 N9 P9; obtain ⟨e9, e9b⟩ := P9; replace e9 := e9.symm; subst e9; (try (refine Exists.elim e9b ?_; clear e9b; intro t9 e9b)); subst e9b; (try dsimp only); (try k_fold)))) | walk1 | (dsimp only; first | ((with_reducible show wpAny _ _ (PySem.call (Value.ref 79) _) _ _ _); k_dflt ((refine' Call.use ?k1 ?k2 ?k3 ?k4 ?k5 ?k6 (fits_is ?hq) ?k7 ?k8 ?_; (case k1 => k_asm); (case k2 => k_asm); (case k3 => k_asm); (case k4 => k_asm); (case hq => first | assumption | omega); (case k5 => k_asm); (case k6 => exact rfl); (case k7 => ktr_room); (case k8 => ktr_units); intro r9 led9 h9 tk9 F9 N9 P9; obtain ⟨e9, e9b⟩ := P9; replace e9 := e9.symm; subst e9; (try (refine Exists.elim e9b ?_; clear e9b; intro t9 e9b)); subst e9b; (try dsimp only); (try k_fold)))) | ((with_reducible show wpAny _ _ (PySem.call (Value.ref 44) _) _ _ _); k_dflt ((refine' Call.use ?k1 ?k2 ?k3 ?k4 ?k5 ?k6 kind_is ?k7 ?k8 ?_; (case k1 => k_asm); (case k2 => k_asm); (case k3 => k_asm); (case k4 => k_asm); (case k5 => k_asm); (case k6 => exact rfl); (case k7 => ktr_room); (case k8 => ktr_units); intro r9 led9 h9 tk9 F9 N9 P9; obtain ⟨e9, e9b⟩ := P9; replace e9 := e9.symm; subst e9; (try (refine Exists.elim e9b ?_; clear e9b; intro t9 e9b)); subst e9b; (try dsimp only); (try k_fold)))) | ((with_reducible show wpAny _ _ (PySem.call (Value.ref 185) _) _ _ _); k_dflt ((refine' Call.use ?k1 ?k2 ?k3 ?k4 ?k5 ?k6 whole_is ?k7 ?k8 ?_; (case k1 => k_asm); (case k2 => k_asm); (case k3 => k_asm); (case k4 => k_asm); (case k5 => k_asm); (case k6 => exact rfl); (case k7 => ktr_room); (case k8 => ktr_units); intro r9 led9 h9 tk9 F9 N9 P9; obtain ⟨e9, e9b⟩ := P9; replace e9 := e9.symm; subst e9; (try (refine Exists.elim e9b ?_; clear e9b; intro t9 e9b)); subst e9b; (try dsimp only); (try k_fold)))) | walk1) | (leave1; walk_say "STEP leave1"; (try dsimp only)) | fail "no step")
  (rename Fr _ _ _ _ => F7)
  (rename News _ _ _ _ => N7)
  exact hret _ _ _ _ F7 N7 ⟨rfl, _, rfl⟩
theorem whole_of_is {w : World} {mean : ExcName → Option Value} {mg mb : Str → Option Value} {news : List (Addr × Obj)} {n : Int} {t1 t2 : Tok} (hn : -2147483648 ≤ n ∧ n < 2147483648) :
    Call w mean mg mb 86 [.int n t1, .int 32 t2] 4 news fun led r => led = news ∧ ∃ t, r = .int n t := by
  unfold Call
  k_fill
  intro dp un gd cn cs a₁ ccd cl outer A₀ base h₀ L m s Q E B F X N TT hk hd₁ hu hret
  refine wpAny_call ?_
  k_dflt ktr_enter
  k_with_none
  repeat' (first | (k_unfold; (try dsimp only)) | (k_end; kc_close) | ((with_reducible show wpAny _ _ (PySem.call (Value.ref 192) _) _ _ _); k_dflt ((refine' Call.use ?k1 ?k2 ?k3 ?k4 ?k5 ?k6 (settled_is ?hq) ?k7 ?k8 ?_; (case k1 => k_asm); (case k2 => k_asm); (case k3 => k_asm); (case k4 => k_asm); (case hq => first | assumption | omega); (case k5 => k_asm); (case k6 => exact rfl); (case k7 => ktr_room); (case k8 => ktr_units); intro r9 led9 h9 tk9 F9 N9 P9; obtain ⟨e9, e9b⟩ := P9; replace e9 := e9.symm; subst e9; (try (refine Exists.elim e9b ?_; clear e9b; intro t9 e9b)); subst e9b; (try dsimp only); (try k_fold)))) | ((with_reducible show wpAny _ _ (PySem.call (Value.ref 79) _) _ _ _); k_dflt ((refine' Call.use ?k1 ?k2 ?k3 ?k4 ?k5 ?k6 (fits_is ?hq) ?k7 ?k8 ?_; (case k1 => k_asm); (case k2 => k_asm); (case k3 => k_asm); (case k4 => k_asm); (case hq => first | assumption | omega); (case k5 => k_asm); (case k6 => exact rfl); (case k7 => ktr_room); (case k8 => ktr_units); intro r9 led9 h9 tk9 F9 N9 P9; obtain ⟨e9, e9b⟩ := P9; replace e9 := e9.symm; subst e9; (try (refine Exists.elim e9b ?_; clear e9b; intro t9 e9b)); subst e9b; (try dsimp only); (try k_fold)))) | ((with_reducible show wpAny _ _ (PySem.call (Value.ref 44) _) _ _ _); k_dflt ((refine' Call.use ?k1 ?k2 ?k3 ?k4 ?k5 ?k6 kind_is ?k7 ?k8 ?_; (case k1 => k_asm); (case k2 => k_asm); (case k3 => k_asm); (case k4 => k_asm); (case k5 => k_asm); (case k6 => exact rfl); (case k7 => ktr_room); (case k8 => ktr_units); intro r9 led9 h9 tk9 F9 N9 P9; obtain ⟨e9, e9b⟩ := P9; replace e9 := e9.symm; subst e9; (try (refine Exists.elim e9b ?_; clear e9b; intro t9 e9b)); subst e9b; (try dsimp only); (try k_fold)))) | ((with_reducible show wpAny _ _ (PySem.call (Value.ref 185) _) _ _ _); k_dflt ((refine' Call.use ?k1 ?k2 ?k3 ?k4 ?k5 ?k6 whole_is ?k7 ?k8 ?_; (case k1 => k_asm); (case k2 => k_asm); (case k3 => k_asm); (case k4 => k_asm); (case k5 => k_asm); (case k6 => exact rfl); (case k7 => ktr_room); (case k8 => ktr_units); intro r9 led9 h9 tk9 F9 N9 P9; obtain ⟨e9, e9b⟩ := P9; replace e9 := e9.symm; subst e9; (try (refine Exists.elim e9b ?_; clear e9b; intro t9 e9b)); subst e9b; (try dsimp only); (try k_fold)))) | walk1 | (dsimp only; first | ((with_reducible show wpAny _ _ (PySem.call (Value.ref 192) _) _ _ _); k_dflt ((refine' Call.use ?k1 ?k2 ?k3 ?k4 ?k5 ?k6 (settled_is ?hq) ?k7 ?k8 ?_; (case k1 => k_asm); (case k2 => k_asm); (case k3 => k_asm); (case k4 => k_asm); (case hq => first | assumption | omega); (case k5 => k_asm); (case k6 => exact rfl); (case k7 => ktr_room); (case k8 => ktr_units); intro r9 led9 h9 tk9 F9 N9 P9; obtain ⟨e9, e9b⟩ := P9; replace e9 := e9.symm; subst e9; (try (refine Exists.elim e9b ?_; clear e9b; intro t9 e9b)); subst e9b; (try dsimp only); (try k_fold)))) | ((with_reducible show wpAny _ _ (PySem.call (Value.ref 79) _) _ _ _); k_dflt ((refine' Call.use ?k1 ?k2 ?k3 ?k4 ?k5 ?k6 (fits_is ?hq) ?k7 ?k8 ?_; (case k1 => k_asm); (case k2 => k_asm); (case k3 => k_asm); (case k4 => k_asm); (case hq => first | assumption | omega); (case k5 => k_asm); (case k6 => exact rfl); (case k7 => ktr_room); (case k8 => ktr_units); intro r9 led9 h9 tk9 F9 N9 P9; obtain ⟨e9, e9b⟩ := P9; replace e9 := e9.symm; subst e9; (try (refine Exists.elim e9b ?_; clear e9b; intro t9 e9b)); subst e9b; (try dsimp only); (try k_fold)))) | ((with_reducible show wpAny _ _ (PySem.call (Value.ref 44) _) _ _ _); k_dflt ((refine' Call.use ?k1 ?k2 ?k3 ?k4 ?k5 ?k6 kind_is ?k7 ?k8 ?_; (case k1 => k_asm); (case k2 => k_asm); (case k3 => k_asm); (case k4 => k_asm); (case k5 => k_asm); (case k6 => exact rfl); (case k7 => ktr_room); (case k8 => ktr_units); intro r9 led9 h9 tk9 F9 N9 P9; obtain ⟨e9, e9b⟩ := P9; replace e9 := e9.symm; subst e9; (try (refine Exists.elim e9b ?_; clear e9b; intro t9 e9b)); subst e9b; (try dsimp only); (try k_fold)))) | ((with_reducible show wpAny _ _ (PySem.call (Value.ref 185) _) _ _ _); k_dflt ((refine' Call.use ?k1 ?k2 ?k3 ?k4 ?k5 ?k6 whole_is ?k7 ?k8 ?_; (case k1 => k_asm); (case k2 => k_asm); (case k3 => k_asm); (case k4 => k_asm); (case k5 => k_asm); (case k6 => exact rfl); (case k7 => ktr_room); (case k8 => ktr_units); intro r9 led9 h9 tk9 F9 N9 P9; obtain ⟨e9, e9b⟩ := P9; replace e9 := e9.symm; subst e9; (try (refine Exists.elim e9b ?_; clear e9b; intro t9 e9b)); subst e9b; (try dsimp only); (try k_fold)))) | walk1) | (leave1; walk_say "STEP leave1"; (try dsimp only)) | fail "no step")
  (rename Fr _ _ _ _ => F7)
  (rename News _ _ _ _ => N7)
  exact hret _ _ _ _ F7 N7 ⟨rfl, _, rfl⟩
section PartM1
theorem q_pos {a b c : Int} (hb : 0 < b) (hc : a = b * c) : a.fdiv b = c := by rw [hc]; exact Int.mul_fdiv_cancel_left c (by omega)
theorem q_neg {a b c : Int} (hb : 0 < b) (hc : a = b * c) : 0 - (-a).fdiv b = c := by rw [hc, ← Int.mul_neg, Int.mul_fdiv_cancel_left (-c) (by omega)]; omega
local macro_rules | `(tactic| walk_at "call builtin:abs") => `(tactic| (k_here; first | (refine abs_pos (by omega) ?_; intro u9 tk9) | (refine abs_neg (by omega) ?_; intro u9 tk9)))
local macro_rules | `(tactic| walk_at "binaryOp FloorDiv int int") => `(tactic| (k_here; k_dflt (refine' PyProof.Rows.floordiv_int ?b ?_ ?p; (case b => omega); (case p => exact Or.inl (PyProof.noPylong_small (by omega))))))
theorem quotient_is {w : World} {mean : ExcName → Option Value} {mg mb : Str → Option Value} {news : List (Addr × Obj)} {a b c : Int} {t1 t2 : Tok} (ha : -2000000000 ≤ a ∧ a ≤ 2000000000) (hb : 0 < b ∧ b ≤ 1000000) (hc : a = b * c) :
    Call w mean mg mb 206 [.int a t1, .int b t2] 3 news fun led r => led = news ∧ ∃ t, r = .int c t := by
  unfold Call
  k_fill
  intro dp un gd cn cs a₁ ccd cl outer A₀ base h₀ L m s Q E B F X N TT hk hd₁ hu hret
  rcases (show a < 0 ∨ 0 ≤ a by omega) with ha0 | ha0
  all_goals refine wpAny_call ?_
  all_goals k_dflt ktr_enter
  k_with_none
  all_goals repeat' (first | (k_unfold; (try dsimp only)) | (k_end; kc_close) | ((with_reducible show wpAny _ _ (PySem.call (Value.ref 86) _) _ _ _); k_dflt ((refine' Call.use ?k1 ?k2 ?k3 ?k4 ?k5 ?k6 (whole_of_is ?hq) ?k7 ?k8 ?_; (case k1 => k_asm); (case k2 => k_asm); (case k3 => k_asm); (case k4 => k_asm); (case hq => first | assumption | omega); (case k5 => k_asm); (case k6 => exact rfl); (case k7 => ktr_room); (case k8 => ktr_units); intro r9 led9 h9 tk9 F9 N9 P9; obtain ⟨e9, e9b⟩ := P9; replace e9 := e9.symm; subst e9; (try (refine Exists.elim e9b ?_; clear e9b; intro t9 e9b)); subst e9b; (try dsimp only); (try k_fold)))) | ((with_reducible show wpAny _ _ (PySem.call (Value.ref 192) _) _ _ _); k_dflt ((refine' Call.use ?k1 ?k2 ?k3 ?k4 ?k5 ?k6 (settled_is ?hq) ?k7 ?k8 ?_; (case k1 => k_asm); (case k2 => k_asm); (case k3 => k_asm); (case k4 => k_asm); (case hq => first | assumption | omega); (case k5 => k_asm); (case k6 => exact rfl); (case k7 => ktr_room); (case k8 => ktr_units); intro r9 led9 h9 tk9 F9 N9 P9; obtain ⟨e9, e9b⟩ := P9; replace e9 := e9.symm; subst e9; (try (refine Exists.elim e9b ?_; clear e9b; intro t9 e9b)); subst e9b; (try dsimp only); (try k_fold)))) | ((with_reducible show wpAny _ _ (PySem.call (Value.ref 79) _) _ _ _); k_dflt ((refine' Call.use ?k1 ?k2 ?k3 ?k4 ?k5 ?k6 (fits_is ?hq) ?k7 ?k8 ?_; (case k1 => k_asm); (case k2 => k_asm); (case k3 => k_asm); (case k4 => k_asm); (case hq => first | assumption | omega); (case k5 => k_asm); (case k6 => exact rfl); (case k7 => ktr_room); (case k8 => ktr_units); intro r9 led9 h9 tk9 F9 N9 P9; obtain ⟨e9, e9b⟩ := P9; replace e9 := e9.symm; subst e9; (try (refine Exists.elim e9b ?_; clear e9b; intro t9 e9b)); subst e9b; (try dsimp only); (try k_fold)))) | ((with_reducible show wpAny _ _ (PySem.call (Value.ref 44) _) _ _ _); k_dflt ((refine' Call.use ?k1 ?k2 ?k3 ?k4 ?k5 ?k6 kind_is ?k7 ?k8 ?_; (case k1 => k_asm); (case k2 => k_asm); (case k3 => k_asm); (case k4 => k_asm); (case k5 => k_asm); (case k6 => exact rfl); (case k7 => ktr_room); (case k8 => ktr_units); intro r9 led9 h9 tk9 F9 N9 P9; obtain ⟨e9, e9b⟩ := P9; replace e9 := e9.symm; subst e9; (try (refine Exists.elim e9b ?_; clear e9b; intro t9 e9b)); subst e9b; (try dsimp only); (try k_fold)))) | ((with_reducible show wpAny _ _ (PySem.call (Value.ref 185) _) _ _ _); k_dflt ((refine' Call.use ?k1 ?k2 ?k3 ?k4 ?k5 ?k6 whole_is ?k7 ?k8 ?_; (case k1 => k_asm); (case k2 => k_asm); (case k3 => k_asm); (case k4 => k_asm); (case k5 => k_asm); (case k6 => exact rfl); (case k7 => ktr_room); (case k8 => ktr_units); intro r9 led9 h9 tk9 F9 N9 P9; obtain ⟨e9, e9b⟩ := P9; replace e9 := e9.symm; subst e9; (try (refine Exists.elim e9b ?_; clear e9b; intro t9 e9b)); subst e9b; (try dsimp only); (try k_fold)))) | walk1 | (dsimp only; first | ((with_reducible show wpAny _ _ (PySem.call (Value.ref 86) _) _ _ _); k_dflt ((refine' Call.use ?k1 ?k2 ?k3 ?k4 ?k5 ?k6 (whole_of_is ?hq) ?k7 ?k8 ?_; (case k1 => k_asm); (case k2 => k_asm); (case k3 => k_asm); (case k4 => k_asm); (case hq => first | assumption | omega); (case k5 => k_asm); (case k6 => exact rfl); (case k7 => ktr_room); (case k8 => ktr_units); intro r9 led9 h9 tk9 F9 N9 P9; obtain ⟨e9, e9b⟩ := P9; replace e9 := e9.symm; subst e9; (try (refine Exists.elim e9b ?_; clear e9b; intro t9 e9b)); subst e9b; (try dsimp only); (try k_fold)))) | ((with_reducible show wpAny _ _ (PySem.call (Value.ref 192) _) _ _ _); k_dflt ((refine' Call.use ?k1 ?k2 ?k3 ?k4 ?k5 ?k6 (settled_is ?hq) ?k7 ?k8 ?_; (case k1 => k_asm); (case k2 => k_asm); (case k3 => k_asm); (case k4 => k_asm); (case hq => first | assumption | omega); (case k5 => k_asm); (case k6 => exact rfl); (case k7 => ktr_room); (case k8 => ktr_units); intro r9 led9 h9 tk9 F9 N9 P9; obtain ⟨e9, e9b⟩ := P9; replace e9 := e9.symm; subst e9; (try (refine Exists.elim e9b ?_; clear e9b; intro t9 e9b)); subst e9b; (try dsimp only); (try k_fold)))) | ((with_reducible show wpAny _ _ (PySem.call (Value.ref 79) _) _ _ _); k_dflt ((refine' Call.use ?k1 ?k2 ?k3 ?k4 ?k5 ?k6 (fits_is ?hq) ?k7 ?k8 ?_; (case k1 => k_asm); (case k2 => k_asm); (case k3 => k_asm); (case k4 => k_asm); (case hq => first | assumption | omega); (case k5 => k_asm); (case k6 => exact rfl); (case k7 => ktr_room); (case k8 => ktr_units); intro r9 led9 h9 tk9 F9 N9 P9; obtain ⟨e9, e9b⟩ := P9; replace e9 := e9.symm; subst e9; (try (refine Exists.elim e9b ?_; clear e9b; intro t9 e9b)); subst e9b; (try dsimp only); (try k_fold)))) | ((with_reducible show wpAny _ _ (PySem.call (Value.ref 44) _) _ _ _); k_dflt ((refine' Call.use ?k1 ?k2 ?k3 ?k4 ?k5 ?k6 kind_is ?k7 ?k8 ?_; (case k1 => k_asm); (case k2 => k_asm); (case k3 => k_asm); (case k4 => k_asm); (case k5 => k_asm); (case k6 => exact rfl); (case k7 => ktr_room); (case k8 => ktr_units); intro r9 led9 h9 tk9 F9 N9 P9; obtain ⟨e9, e9b⟩ := P9; replace e9 := e9.symm; subst e9; (try (refine Exists.elim e9b ?_; clear e9b; intro t9 e9b)); subst e9b; (try dsimp only); (try k_fold)))) | ((with_reducible show wpAny _ _ (PySem.call (Value.ref 185) _) _ _ _); k_dflt ((refine' Call.use ?k1 ?k2 ?k3 ?k4 ?k5 ?k6 whole_is ?k7 ?k8 ?_; (case k1 => k_asm); (case k2 => k_asm); (case k3 => k_asm); (case k4 => k_asm); (case k5 => k_asm); (case k6 => exact rfl); (case k7 => ktr_room); (case k8 => ktr_units); intro r9 led9 h9 tk9 F9 N9 P9; obtain ⟨e9, e9b⟩ := P9; replace e9 := e9.symm; subst e9; (try (refine Exists.elim e9b ?_; clear e9b; intro t9 e9b)); subst e9b; (try dsimp only); (try k_fold)))) | walk1) | (leave1; walk_say "STEP leave1"; (try dsimp only)) | fail "no step")
  all_goals (rename Fr _ _ _ _ => F7)
  all_goals (rename News _ _ _ _ => N7)
  · exact hret _ _ _ _ F7 N7 ⟨rfl, _, by rw [q_neg hb.1 hc]⟩
  · exact hret _ _ _ _ F7 N7 ⟨rfl, _, by rw [q_pos hb.1 hc]⟩
theorem rest_is {w : World} {mean : ExcName → Option Value} {mg mb : Str → Option Value} {news : List (Addr × Obj)} {a b c : Int} {t1 t2 : Tok} (ha : -2000000000 ≤ a ∧ a ≤ 2000000000) (hb : 0 < b ∧ b ≤ 1000000) (hc : a = b * c) :
    Call w mean mg mb 213 [.int a t1, .int b t2] 5 news fun led r => led = news ∧ ∃ t, r = .int 0 t := by
  unfold Call
  k_fill
  intro dp un gd cn cs a₁ ccd cl outer A₀ base h₀ L m s Q E B F X N TT hk hd₁ hu hret
  refine wpAny_call ?_
  k_dflt ktr_enter
  k_with_none
  repeat' (first | (k_unfold; (try dsimp only)) | (k_end; kc_close) | ((with_reducible show wpAny _ _ (PySem.call (Value.ref 206) _) _ _ _); k_dflt ((refine' Call.use ?k1 ?k2 ?k3 ?k4 ?k5 ?k6 (quotient_is ?hqa ?hqb ?hqc) ?k7 ?k8 ?_; (case k1 => k_asm); (case k2 => k_asm); (case k3 => k_asm); (case k4 => k_asm); (case hqa => assumption); (case hqb => assumption); (case hqc => assumption); (case k5 => k_asm); (case k6 => exact rfl); (case k7 => ktr_room); (case k8 => ktr_units); intro r9 led9 h9 tk9 F9 N9 P9; obtain ⟨e9, e9b⟩ := P9; replace e9 := e9.symm; subst e9; (try (refine Exists.elim e9b ?_; clear e9b; intro t9 e9b)); subst e9b; (try dsimp only); (try k_fold)))) | ((with_reducible show wpAny _ _ (PySem.call (Value.ref 86) _) _ _ _); k_dflt ((refine' Call.use ?k1 ?k2 ?k3 ?k4 ?k5 ?k6 (whole_of_is ?hq) ?k7 ?k8 ?_; (case k1 => k_asm); (case k2 => k_asm); (case k3 => k_asm); (case k4 => k_asm); (case hq => first | assumption | omega); (case k5 => k_asm); (case k6 => exact rfl); (case k7 => ktr_room); (case k8 => ktr_units); intro r9 led9 h9 tk9 F9 N9 P9; obtain ⟨e9, e9b⟩ := P9; replace e9 := e9.symm; subst e9; (try (refine Exists.elim e9b ?_; clear e9b; intro t9 e9b)); subst e9b; (try dsimp only); (try k_fold)))) | ((with_reducible show wpAny _ _ (PySem.call (Value.ref 192) _) _ _ _); k_dflt ((refine' Call.use ?k1 ?k2 ?k3 ?k4 ?k5 ?k6 (settled_is ?hq) ?k7 ?k8 ?_; (case k1 => k_asm); (case k2 => k_asm); (case k3 => k_asm); (case k4 => k_asm); (case hq => first | assumption | omega); (case k5 => k_asm); (case k6 => exact rfl); (case k7 => ktr_room); (case k8 => ktr_units); intro r9 led9 h9 tk9 F9 N9 P9; obtain ⟨e9, e9b⟩ := P9; replace e9 := e9.symm; subst e9; (try (refine Exists.elim e9b ?_; clear e9b; intro t9 e9b)); subst e9b; (try dsimp only); (try k_fold)))) | ((with_reducible show wpAny _ _ (PySem.call (Value.ref 79) _) _ _ _); k_dflt ((refine' Call.use ?k1 ?k2 ?k3 ?k4 ?k5 ?k6 (fits_is ?hq) ?k7 ?k8 ?_; (case k1 => k_asm); (case k2 => k_asm); (case k3 => k_asm); (case k4 => k_asm); (case hq => first | assumption | omega); (case k5 => k_asm); (case k6 => exact rfl); (case k7 => ktr_room); (case k8 => ktr_units); intro r9 led9 h9 tk9 F9 N9 P9; obtain ⟨e9, e9b⟩ := P9; replace e9 := e9.symm; subst e9; (try (refine Exists.elim e9b ?_; clear e9b; intro t9 e9b)); subst e9b; (try dsimp only); (try k_fold)))) | ((with_reducible show wpAny _ _ (PySem.call (Value.ref 44) _) _ _ _); k_dflt ((refine' Call.use ?k1 ?k2 ?k3 ?k4 ?k5 ?k6 kind_is ?k7 ?k8 ?_; (case k1 => k_asm); (case k2 => k_asm); (case k3 => k_asm); (case k4 => k_asm); (case k5 => k_asm); (case k6 => exact rfl); (case k7 => ktr_room); (case k8 => ktr_units); intro r9 led9 h9 tk9 F9 N9 P9; obtain ⟨e9, e9b⟩ := P9; replace e9 := e9.symm; subst e9; (try (refine Exists.elim e9b ?_; clear e9b; intro t9 e9b)); subst e9b; (try dsimp only); (try k_fold)))) | ((with_reducible show wpAny _ _ (PySem.call (Value.ref 185) _) _ _ _); k_dflt ((refine' Call.use ?k1 ?k2 ?k3 ?k4 ?k5 ?k6 whole_is ?k7 ?k8 ?_; (case k1 => k_asm); (case k2 => k_asm); (case k3 => k_asm); (case k4 => k_asm); (case k5 => k_asm); (case k6 => exact rfl); (case k7 => ktr_room); (case k8 => ktr_units); intro r9 led9 h9 tk9 F9 N9 P9; obtain ⟨e9, e9b⟩ := P9; replace e9 := e9.symm; subst e9; (try (refine Exists.elim e9b ?_; clear e9b; intro t9 e9b)); subst e9b; (try dsimp only); (try k_fold)))) | walk1 | (dsimp only; first | ((with_reducible show wpAny _ _ (PySem.call (Value.ref 206) _) _ _ _); k_dflt ((refine' Call.use ?k1 ?k2 ?k3 ?k4 ?k5 ?k6 (quotient_is ?hqa ?hqb ?hqc) ?k7 ?k8 ?_; (case k1 => k_asm); (case k2 => k_asm); (case k3 => k_asm); (case k4 => k_asm); (case hqa => assumption); (case hqb => assumption); (case hqc => assumption); (case k5 => k_asm); (case k6 => exact rfl); (case k7 => ktr_room); (case k8 => ktr_units); intro r9 led9 h9 tk9 F9 N9 P9; obtain ⟨e9, e9b⟩ := P9; replace e9 := e9.symm; subst e9; (try (refine Exists.elim e9b ?_; clear e9b; intro t9 e9b)); subst e9b; (try dsimp only); (try k_fold)))) | ((with_reducible show wpAny _ _ (PySem.call (Value.ref 86) _) _ _ _); k_dflt ((refine' Call.use ?k1 ?k2 ?k3 ?k4 ?k5 ?k6 (whole_of_is ?hq) ?k7 ?k8 ?_; (case k1 => k_asm); (case k2 => k_asm); (case k3 => k_asm); (case k4 => k_asm); (case hq => first | assumption | omega); (case k5 => k_asm); (case k6 => exact rfl); (case k7 => ktr_room); (case k8 => ktr_units); intro r9 led9 h9 tk9 F9 N9 P9; obtain ⟨e9, e9b⟩ := P9; replace e9 := e9.symm; subst e9; (try (refine Exists.elim e9b ?_; clear e9b; intro t9 e9b)); subst e9b; (try dsimp only); (try k_fold)))) | ((with_reducible show wpAny _ _ (PySem.call (Value.ref 192) _) _ _ _); k_dflt ((refine' Call.use ?k1 ?k2 ?k3 ?k4 ?k5 ?k6 (settled_is ?hq) ?k7 ?k8 ?_; (case k1 => k_asm); (case k2 => k_asm); (case k3 => k_asm); (case k4 => k_asm); (case hq => first | assumption | omega); (case k5 => k_asm); (case k6 => exact rfl); (case k7 => ktr_room); (case k8 => ktr_units); intro r9 led9 h9 tk9 F9 N9 P9; obtain ⟨e9, e9b⟩ := P9; replace e9 := e9.symm; subst e9; (try (refine Exists.elim e9b ?_; clear e9b; intro t9 e9b)); subst e9b; (try dsimp only); (try k_fold)))) | ((with_reducible show wpAny _ _ (PySem.call (Value.ref 79) _) _ _ _); k_dflt ((refine' Call.use ?k1 ?k2 ?k3 ?k4 ?k5 ?k6 (fits_is ?hq) ?k7 ?k8 ?_; (case k1 => k_asm); (case k2 => k_asm); (case k3 => k_asm); (case k4 => k_asm); (case hq => first | assumption | omega); (case k5 => k_asm); (case k6 => exact rfl); (case k7 => ktr_room); (case k8 => ktr_units); intro r9 led9 h9 tk9 F9 N9 P9; obtain ⟨e9, e9b⟩ := P9; replace e9 := e9.symm; subst e9; (try (refine Exists.elim e9b ?_; clear e9b; intro t9 e9b)); subst e9b; (try dsimp only); (try k_fold)))) | ((with_reducible show wpAny _ _ (PySem.call (Value.ref 44) _) _ _ _); k_dflt ((refine' Call.use ?k1 ?k2 ?k3 ?k4 ?k5 ?k6 kind_is ?k7 ?k8 ?_; (case k1 => k_asm); (case k2 => k_asm); (case k3 => k_asm); (case k4 => k_asm); (case k5 => k_asm); (case k6 => exact rfl); (case k7 => ktr_room); (case k8 => ktr_units); intro r9 led9 h9 tk9 F9 N9 P9; obtain ⟨e9, e9b⟩ := P9; replace e9 := e9.symm; subst e9; (try (refine Exists.elim e9b ?_; clear e9b; intro t9 e9b)); subst e9b; (try dsimp only); (try k_fold)))) | ((with_reducible show wpAny _ _ (PySem.call (Value.ref 185) _) _ _ _); k_dflt ((refine' Call.use ?k1 ?k2 ?k3 ?k4 ?k5 ?k6 whole_is ?k7 ?k8 ?_; (case k1 => k_asm); (case k2 => k_asm); (case k3 => k_asm); (case k4 => k_asm); (case k5 => k_asm); (case k6 => exact rfl); (case k7 => ktr_room); (case k8 => ktr_units); intro r9 led9 h9 tk9 F9 N9 P9; obtain ⟨e9, e9b⟩ := P9; replace e9 := e9.symm; subst e9; (try (refine Exists.elim e9b ?_; clear e9b; intro t9 e9b)); subst e9b; (try dsimp only); (try k_fold)))) | walk1) | (leave1; walk_say "STEP leave1"; (try dsimp only)) | fail "no step")
  (rename Fr _ _ _ _ => F7)
  (rename News _ _ _ _ => N7)
  exact hret _ _ _ _ F7 N7 ⟨rfl, _, congrArg (fun x => Value.int x _) (show a - b * c = 0 by omega)⟩
theorem mod_is {w : World} {mean : ExcName → Option Value} {mg mb : Str → Option Value} {news : List (Addr × Obj)} {a b c : Int} {t1 t2 t3 t4 t5 : Tok} (ha : -2000000000 ≤ a ∧ a ≤ 2000000000) (hb : 0 < b ∧ b ≤ 1000000) (hc : a = b * c) :
    Call w mean mg mb 241 [.str (Str.ofString "MOD") t1, .int a t2, .int b t3, .int 32 t4, .int 9 t5] 8 news fun led r => led = news ∧ ∃ t, r = .int 0 t := by
  unfold Call
  k_fill
  intro dp un gd cn cs a₁ ccd cl outer A₀ base h₀ L m s Q E B F X N TT hk hd₁ hu hret
  refine wpAny_call ?_
  k_dflt ktr_enter
  k_with_none
  repeat' (first | (k_unfold; (try dsimp only)) | (k_end; kc_close) | ((with_reducible show wpAny _ _ (PySem.call (Value.ref 213) _) _ _ _); k_dflt ((refine' Call.use ?k1 ?k2 ?k3 ?k4 ?k5 ?k6 (rest_is ?hqa ?hqb ?hqc) ?k7 ?k8 ?_; (case k1 => k_asm); (case k2 => k_asm); (case k3 => k_asm); (case k4 => k_asm); (case hqa => assumption); (case hqb => assumption); (case hqc => assumption); (case k5 => k_asm); (case k6 => exact rfl); (case k7 => ktr_room); (case k8 => ktr_units); intro r9 led9 h9 tk9 F9 N9 P9; obtain ⟨e9, e9b⟩ := P9; replace e9 := e9.symm; subst e9; (try (refine Exists.elim e9b ?_; clear e9b; intro t9 e9b)); subst e9b; (try dsimp only); (try k_fold)))) | ((with_reducible show wpAny _ _ (PySem.call (Value.ref 206) _) _ _ _); k_dflt ((refine' Call.use ?k1 ?k2 ?k3 ?k4 ?k5 ?k6 (quotient_is ?hqa ?hqb ?hqc) ?k7 ?k8 ?_; (case k1 => k_asm); (case k2 => k_asm); (case k3 => k_asm); (case k4 => k_asm); (case hqa => assumption); (case hqb => assumption); (case hqc => assumption); (case k5 => k_asm); (case k6 => exact rfl); (case k7 => ktr_room); (case k8 => ktr_units); intro r9 led9 h9 tk9 F9 N9 P9; obtain ⟨e9, e9b⟩ := P9; replace e9 := e9.symm; subst e9; (try (refine Exists.elim e9b ?_; clear e9b; intro t9 e9b)); subst e9b; (try dsimp only); (try k_fold)))) | ((with_reducible show wpAny _ _ (PySem.call (Value.ref 86) _) _ _ _); k_dflt ((refine' Call.use ?k1 ?k2 ?k3 ?k4 ?k5 ?k6 (whole_of_is ?hq) ?k7 ?k8 ?_; (case k1 => k_asm); (case k2 => k_asm); (case k3 => k_asm); (case k4 => k_asm); (case hq => first | assumption | omega); (case k5 => k_asm); (case k6 => exact rfl); (case k7 => ktr_room); (case k8 => ktr_units); intro r9 led9 h9 tk9 F9 N9 P9; obtain ⟨e9, e9b⟩ := P9; replace e9 := e9.symm; subst e9; (try (refine Exists.elim e9b ?_; clear e9b; intro t9 e9b)); subst e9b; (try dsimp only); (try k_fold)))) | ((with_reducible show wpAny _ _ (PySem.call (Value.ref 192) _) _ _ _); k_dflt ((refine' Call.use ?k1 ?k2 ?k3 ?k4 ?k5 ?k6 (settled_is ?hq) ?k7 ?k8 ?_; (case k1 => k_asm); (case k2 => k_asm); (case k3 => k_asm); (case k4 => k_asm); (case hq => first | assumption | omega); (case k5 => k_asm); (case k6 => exact rfl); (case k7 => ktr_room); (case k8 => ktr_units); intro r9 led9 h9 tk9 F9 N9 P9; obtain ⟨e9, e9b⟩ := P9; replace e9 := e9.symm; subst e9; (try (refine Exists.elim e9b ?_; clear e9b; intro t9 e9b)); subst e9b; (try dsimp only); (try k_fold)))) | ((with_reducible show wpAny _ _ (PySem.call (Value.ref 79) _) _ _ _); k_dflt ((refine' Call.use ?k1 ?k2 ?k3 ?k4 ?k5 ?k6 (fits_is ?hq) ?k7 ?k8 ?_; (case k1 => k_asm); (case k2 => k_asm); (case k3 => k_asm); (case k4 => k_asm); (case hq => first | assumption | omega); (case k5 => k_asm); (case k6 => exact rfl); (case k7 => ktr_room); (case k8 => ktr_units); intro r9 led9 h9 tk9 F9 N9 P9; obtain ⟨e9, e9b⟩ := P9; replace e9 := e9.symm; subst e9; (try (refine Exists.elim e9b ?_; clear e9b; intro t9 e9b)); subst e9b; (try dsimp only); (try k_fold)))) | ((with_reducible show wpAny _ _ (PySem.call (Value.ref 44) _) _ _ _); k_dflt ((refine' Call.use ?k1 ?k2 ?k3 ?k4 ?k5 ?k6 kind_is ?k7 ?k8 ?_; (case k1 => k_asm); (case k2 => k_asm); (case k3 => k_asm); (case k4 => k_asm); (case k5 => k_asm); (case k6 => exact rfl); (case k7 => ktr_room); (case k8 => ktr_units); intro r9 led9 h9 tk9 F9 N9 P9; obtain ⟨e9, e9b⟩ := P9; replace e9 := e9.symm; subst e9; (try (refine Exists.elim e9b ?_; clear e9b; intro t9 e9b)); subst e9b; (try dsimp only); (try k_fold)))) | ((with_reducible show wpAny _ _ (PySem.call (Value.ref 185) _) _ _ _); k_dflt ((refine' Call.use ?k1 ?k2 ?k3 ?k4 ?k5 ?k6 whole_is ?k7 ?k8 ?_; (case k1 => k_asm); (case k2 => k_asm); (case k3 => k_asm); (case k4 => k_asm); (case k5 => k_asm); (case k6 => exact rfl); (case k7 => ktr_room); (case k8 => ktr_units); intro r9 led9 h9 tk9 F9 N9 P9; obtain ⟨e9, e9b⟩ := P9; replace e9 := e9.symm; subst e9; (try (refine Exists.elim e9b ?_; clear e9b; intro t9 e9b)); subst e9b; (try dsimp only); (try k_fold)))) | walk1 | (dsimp only; first | ((with_reducible show wpAny _ _ (PySem.call (Value.ref 213) _) _ _ _); k_dflt ((refine' Call.use ?k1 ?k2 ?k3 ?k4 ?k5 ?k6 (rest_is ?hqa ?hqb ?hqc) ?k7 ?k8 ?_; (case k1 => k_asm); (case k2 => k_asm); (case k3 => k_asm); (case k4 => k_asm); (case hqa => assumption); (case hqb => assumption); (case hqc => assumption); (case k5 => k_asm); (case k6 => exact rfl); (case k7 => ktr_room); (case k8 => ktr_units); intro r9 led9 h9 tk9 F9 N9 P9; obtain ⟨e9, e9b⟩ := P9; replace e9 := e9.symm; subst e9; (try (refine Exists.elim e9b ?_; clear e9b; intro t9 e9b)); subst e9b; (try dsimp only); (try k_fold)))) | ((with_reducible show wpAny _ _ (PySem.call (Value.ref 206) _) _ _ _); k_dflt ((refine' Call.use ?k1 ?k2 ?k3 ?k4 ?k5 ?k6 (quotient_is ?hqa ?hqb ?hqc) ?k7 ?k8 ?_; (case k1 => k_asm); (case k2 => k_asm); (case k3 => k_asm); (case k4 => k_asm); (case hqa => assumption); (case hqb => assumption); (case hqc => assumption); (case k5 => k_asm); (case k6 => exact rfl); (case k7 => ktr_room); (case k8 => ktr_units); intro r9 led9 h9 tk9 F9 N9 P9; obtain ⟨e9, e9b⟩ := P9; replace e9 := e9.symm; subst e9; (try (refine Exists.elim e9b ?_; clear e9b; intro t9 e9b)); subst e9b; (try dsimp only); (try k_fold)))) | ((with_reducible show wpAny _ _ (PySem.call (Value.ref 86) _) _ _ _); k_dflt ((refine' Call.use ?k1 ?k2 ?k3 ?k4 ?k5 ?k6 (whole_of_is ?hq) ?k7 ?k8 ?_; (case k1 => k_asm); (case k2 => k_asm); (case k3 => k_asm); (case k4 => k_asm); (case hq => first | assumption | omega); (case k5 => k_asm); (case k6 => exact rfl); (case k7 => ktr_room); (case k8 => ktr_units); intro r9 led9 h9 tk9 F9 N9 P9; obtain ⟨e9, e9b⟩ := P9; replace e9 := e9.symm; subst e9; (try (refine Exists.elim e9b ?_; clear e9b; intro t9 e9b)); subst e9b; (try dsimp only); (try k_fold)))) | ((with_reducible show wpAny _ _ (PySem.call (Value.ref 192) _) _ _ _); k_dflt ((refine' Call.use ?k1 ?k2 ?k3 ?k4 ?k5 ?k6 (settled_is ?hq) ?k7 ?k8 ?_; (case k1 => k_asm); (case k2 => k_asm); (case k3 => k_asm); (case k4 => k_asm); (case hq => first | assumption | omega); (case k5 => k_asm); (case k6 => exact rfl); (case k7 => ktr_room); (case k8 => ktr_units); intro r9 led9 h9 tk9 F9 N9 P9; obtain ⟨e9, e9b⟩ := P9; replace e9 := e9.symm; subst e9; (try (refine Exists.elim e9b ?_; clear e9b; intro t9 e9b)); subst e9b; (try dsimp only); (try k_fold)))) | ((with_reducible show wpAny _ _ (PySem.call (Value.ref 79) _) _ _ _); k_dflt ((refine' Call.use ?k1 ?k2 ?k3 ?k4 ?k5 ?k6 (fits_is ?hq) ?k7 ?k8 ?_; (case k1 => k_asm); (case k2 => k_asm); (case k3 => k_asm); (case k4 => k_asm); (case hq => first | assumption | omega); (case k5 => k_asm); (case k6 => exact rfl); (case k7 => ktr_room); (case k8 => ktr_units); intro r9 led9 h9 tk9 F9 N9 P9; obtain ⟨e9, e9b⟩ := P9; replace e9 := e9.symm; subst e9; (try (refine Exists.elim e9b ?_; clear e9b; intro t9 e9b)); subst e9b; (try dsimp only); (try k_fold)))) | ((with_reducible show wpAny _ _ (PySem.call (Value.ref 44) _) _ _ _); k_dflt ((refine' Call.use ?k1 ?k2 ?k3 ?k4 ?k5 ?k6 kind_is ?k7 ?k8 ?_; (case k1 => k_asm); (case k2 => k_asm); (case k3 => k_asm); (case k4 => k_asm); (case k5 => k_asm); (case k6 => exact rfl); (case k7 => ktr_room); (case k8 => ktr_units); intro r9 led9 h9 tk9 F9 N9 P9; obtain ⟨e9, e9b⟩ := P9; replace e9 := e9.symm; subst e9; (try (refine Exists.elim e9b ?_; clear e9b; intro t9 e9b)); subst e9b; (try dsimp only); (try k_fold)))) | ((with_reducible show wpAny _ _ (PySem.call (Value.ref 185) _) _ _ _); k_dflt ((refine' Call.use ?k1 ?k2 ?k3 ?k4 ?k5 ?k6 whole_is ?k7 ?k8 ?_; (case k1 => k_asm); (case k2 => k_asm); (case k3 => k_asm); (case k4 => k_asm); (case k5 => k_asm); (case k6 => exact rfl); (case k7 => ktr_room); (case k8 => ktr_units); intro r9 led9 h9 tk9 F9 N9 P9; obtain ⟨e9, e9b⟩ := P9; replace e9 := e9.symm; subst e9; (try (refine Exists.elim e9b ?_; clear e9b; intro t9 e9b)); subst e9b; (try dsimp only); (try k_fold)))) | walk1) | (leave1; walk_say "STEP leave1"; (try dsimp only)) | fail "no step")
  (rename Fr _ _ _ _ => F7)
  (rename News _ _ _ _ => N7)
  exact hret _ _ _ _ F7 (fun p hp => N7 p (by first | assumption | exact .tail _ hp)) ⟨rfl, _, rfl⟩
end PartM1
section PartD1
open PySem PySem.W PyProof.Rows PyProof.V PySem.Spec
theorem list_no_keys : typeLookup (.type "list") "keys" = pure none := by rw [typeLookup_type, builtinLookup_eq_fast]; kernel_rfl
theorem keys_none {prog : Program} {w : World} {A : Around} {E : Value → Shared → Prop} {s : Shared} {a : Addr} {xs : Array Value} {k : Nat} {Q : Option Value → Shared → Prop}
    (hx : s.heap.get? a = some (listOf xs k)) (hA : A.handled = none) (h : ∀ h' tk, (∀ b o, s.heap.get? b = some o → h'.get? b = some o) → Q none { s with heap := h', toks := tk }) :
    wpAny (model prog w) A (getAttr? (.ref a) "keys") Q E s := by
  obtain ⟨hp, g, d, tk, os⟩ := s
  have hT : ∀ tk', (⟨hp, g, d, tk', os⟩ : Shared).TypeIs (.ref a) "list" := fun _ => ⟨_, hx, rfl⟩
  have f1 := sub_AttributeError
  have f3 := F.slot_list_getattribute.lookup
  have f4 := F.slot_list_getattribute.bind (.ref a)
  have f5 := am_list_getattr_none
  unfold getAttr? getAttrBy? getAttrBy
  repeat (any_goals (first | assumption | exact hT _ | ((with_reducible show wpAny _ _ (call (Value.builtin "list.__getattribute__") _ _) _ _ _); refine call_meets F.slot_list_getattribute (hT _) am_entry_list_getattribute (F.args_list_getattribute_2 _ _) (meets_getattribute_miss_list a xs k #[] "keys" _ list_no_keys (by decide +kernel) (by decide +kernel)) ⟨hx, hA, fun h' tk' e hx' => ?_⟩) | wp_step))
  obtain ⟨t', u', he⟩ := hx'.there
  show wpAny _ _ (getattributeRaised _ _ _ _ _ _ _) _ _ _
  unfold getattributeRaised
  repeat (any_goals (first | assumption | wp_step))
  exact h _ _ hx'.keeps
theorem upd_entry : entryFor table "dict.update.loop" = some Builtin.«dict.update.loop» := entryFor_of_tree (by kernel_rfl)
theorem str_is (x : Str) (t : Tok) : Value.isStrOf x (Value.str x t) = true := by simp [Value.isStrOf]
theorem dict_one {prog : Program} {w : World} {A : Around} {E : Value → Shared → Prop} {s : Shared} {l t : Addr} {k n : Nat} {x : Str} {tx : Tok} {v : Value} {Q : Value → Shared → Prop}
    (hl : s.heap.get? l = some (listOf #[.ref t] k)) (ht : s.heap.get? t = some (tup [.str x tx, v] n)) (hA : A.handled = none)
    (h : ∀ h' tk, (∀ b o, s.heap.get? b = some o → h'.get? b = some o) → h'.DictOf (PySem.strKind prog w) s.heap.objs.size [(x, v)] → Q (.ref s.heap.objs.size) { s with heap := h', toks := tk }) :
    wpAny (model prog w) A (call (.type "dict") [.ref l]) Q E s := by
  refine callType_codes (Q₁ := fun obj s₁ => obj = .ref s.heap.objs.size ∧ s₁ = { s with heap := s.heap.push { cls := .type "dict", data := .dict #[] } }) F.kt_called_dict (F.kt_typeCall_dict_1 _) F.entry_dict_init (kt_code_dict_new _ ⟨rfl, rfl⟩) ?_
  rintro obj s₁ ⟨rfl, rfl⟩
  have hnew : (s.heap.push { cls := .type "dict", data := .dict #[] }).DictOf (PySem.strKind prog w) s.heap.objs.size [] := Heap.DictOf.new s.heap
  have hl1 : (s.heap.push { cls := .type "dict", data := .dict #[] }).get? l = some (listOf #[.ref t] k) := Heap.get?_push_of_some _ hl
  have ht1 : (s.heap.push { cls := .type "dict", data := .dict #[] }).get? t = some (tup [.str x tx, v] n) := Heap.get?_push_of_some _ ht
  refine ⟨hnew.typeIs, F.args_dict_init_2 _ _, ?_⟩
  unfold Builtin.«dict.__init__»
  refine wpAny_bind ?_
  unfold Builtin.Dict.selfAndRest
  refine wpAny_bind (wpAny_notOrdered_dict hnew.typeIs ?_)
  show wpAny _ _ (pure (s.heap.objs.size, [Value.ref l])) _ _ _
  refine wpAny_pure ?_
  show wpAny _ _ (Builtin.Dict.updateFrom "dict.__init__" s.heap.objs.size (.ref l) [] .none) _ _ _
  unfold Builtin.Dict.updateFrom
  refine wpAny_bind (wpAny_typeOf (T := "list") ⟨_, hl1, rfl⟩ ?_)
  rw [if_pos (by decide)]
  refine wpAny_bind (keys_none (A := A.in1.in1) hl1 hA fun h1 tk1 k1 => ?_)
  simp only [Option.isNone_none, if_true]
  refine wpAny_bind (wpAny_rule ?_)
  refine wpAny_bind ?_
  have hl2 := k1 _ _ hl1
  have ht2 := k1 _ _ ht1
  refine wpAny_pyIter_list (items := #[.ref t]) ⟨_, hl2, rfl, _, rfl⟩ ?_
  refine wpAny_pure ⟨Code.quiet_builtin _ (by decide +kernel), ?_⟩
  refine codeAny_builtin (b := Builtin.«dict.update.loop») upd_entry ?_
  unfold Builtin.«dict.update.loop»
  have hit : (h1.push { cls := .type "list_iterator", data := .fields #[.ref l, .int 0 0] }).IsListIter h1.objs.size l 0 := ⟨_, Heap.get?_push_size _ rfl, rfl, rfl⟩
  have hl3 : (h1.push { cls := .type "list_iterator", data := .fields #[.ref l, .int 0 0] }).IsList l #[.ref t] := ⟨_, Heap.get?_push_of_some _ hl2, rfl, _, rfl⟩
  refine wpAny_bind (wpAny_pyNext_list_item hit hl3 rfl fun h2 hit2 sb2 => ?_)
  dsimp only
  have lt : t < h1.objs.size := Heap.lt_size ht2
  have ht3 : h2.get? t = some (tup [.str x tx, v] n) := (sb2.2 t (Nat.ne_of_lt lt)).trans (Heap.get?_push_of_some _ ht2)
  obtain ⟨od, hod, hid⟩ := Heap.dictOf_iff.mp hnew
  have hd1 := k1 _ _ hod
  have ld : s.heap.objs.size < h1.objs.size := Heap.lt_size hd1
  have hd2 : h2.DictOf (PySem.strKind prog w) s.heap.objs.size [] := Heap.dictOf_iff.mpr ⟨od, (sb2.2 _ (Nat.ne_of_lt ld)).trans (Heap.get?_push_of_some _ hd1), hid⟩
  refine wpAny_bind (wpAny_holding (wpAny_bind (wpAny_tryCatch ?_)))
  unfold Builtin.Dict.pairItems
  refine wpAny_bind (wpAny_typeOf (T := "tuple") ⟨_, ht3, rfl⟩ ?_)
  rw [if_pos (by decide)]
  unfold seqItems?
  refine wpAny_bind (wpAny_bind (wpAny_load ht3 ?_))
  refine wpAny_pure (wpAny_pure ?_)
  dsimp only [Option.getD]
  refine wpAny_holding (wpAny_dictSet_pairs (k := x) (kvs := []) (str_is x tx) hd2 fun h3 hd3 sb3 => ?_)
  have hdt : s.heap.objs.size ≠ h1.objs.size := Nat.ne_of_lt ld
  have hit3 : h3.IsListIter h1.objs.size l 1 := hit2.at fun o e => (sb3.2 _ (Ne.symm hdt)).trans e
  have hlt : l < h1.objs.size := Heap.lt_size hl2
  have hls : l < s.heap.objs.size := Heap.lt_size hl
  have hl4 : h3.IsList l #[.ref t] := hl3.at fun o e => (sb3.2 _ (Nat.ne_of_lt hls)).trans ((sb2.2 _ (Nat.ne_of_lt hlt)).trans e)
  refine wpAny_pure ⟨Code.quiet_builtin _ (by decide +kernel), ?_⟩
  refine codeAny_builtin (b := Builtin.«dict.update.loop») upd_entry ?_
  unfold Builtin.«dict.update.loop»
  refine wpAny_bind (wpAny_pyNext_list_end hA hit3 hl4 rfl fun h4 eb => ?_)
  dsimp only
  have hd4 : h4.DictOf (PySem.strKind prog w) s.heap.objs.size [(x, v)] := by
    obtain ⟨o3, ho3, hi3⟩ := Heap.dictOf_iff.mp hd3
    exact Heap.dictOf_iff.mpr ⟨o3, eb _ _ hdt ho3, hi3⟩
  have hkeep : ∀ b o, s.heap.get? b = some o → h4.get? b = some o := fun b o e => by
    have hb : b < s.heap.objs.size := Heap.lt_size e
    have e1 := k1 _ _ (Heap.get?_push_of_some _ e)
    exact eb _ _ (Nat.ne_of_lt (Nat.lt_trans hb ld)) ((sb3.2 _ (Nat.ne_of_lt hb)).trans ((sb2.2 _ (Nat.ne_of_lt (Nat.lt_trans hb ld))).trans (Heap.get?_push_of_some _ e1)))
  exact wpAny_bind (wpAny_pure (wpAny_pure ⟨rfl, h h4 _ hkeep hd4⟩))
theorem dict_oneK {prog : Program} {w : World} {A : Around} {E : Value → Shared → Prop} {s : Shared} {h₀ : Heap} {L l t : Addr} {m : Str → Option Value} {news : List (Addr × Obj)} {k n : Nat} {x : Str} {tx tp : Tok} {p : Int} {Q : Value → Shared → Prop}
    (F : Fr h₀ L s.heap m) (N : News h₀ L s.heap news) (hbig : h₀.NoLimit) (hl : (l, listOf #[.ref t] k) ∈ news) (ht : (t, tup [.str x tx, .int p tp] n) ∈ news) (hA : A.handled = none)
    (h : ∀ d o h' tk, Fr h₀ L h' m → News h₀ L h' ((d, o) :: news) → (∀ q ∈ news, q.1 < d) → (d == sysModules) = false → o.IsDictOf (PySem.strKind prog w) [(x, .int p tp)] → FlatPairs PyData.str [(x, Value.int p tp)] [(PyData.str x, PyData.int p)] → Q (.ref d) { s with heap := h', toks := tk }) :
    wpAny (model prog w) A (call (.type "dict") [.ref l]) Q E s := by
  refine dict_one (N _ hl).1 (N _ ht).1 hA fun h' tk hk hd => ?_
  obtain ⟨o, ho, hi⟩ := Heap.dictOf_iff.mp hd
  have F' : Fr h₀ L h' m := ⟨F.ns.keeps hk, fun b o e => hk _ _ (F.keep b o e), F.above⟩
  have lt : ∀ q ∈ news, q.1 < s.heap.objs.size := fun q hq => Heap.lt_size (N q hq).1
  refine h _ o h' tk F' (fun q hq => ?_) lt (F.notModules (modules_low hbig)) hi (.cons (.int _ _) .nil)
  rcases List.mem_cons.mp hq with rfl | hq
  · refine ⟨ho, Nat.ne_of_gt F.ns.lt, ?_⟩
    cases q : h₀.get? s.heap.objs.size with
    | none => rfl
    | some o' => exact absurd (Nat.lt_of_lt_of_le (Heap.lt_size q) (Nat.le_trans F.above (Nat.le_of_lt F.ns.lt))) (Nat.lt_irrefl _)
  · exact ⟨hk _ _ (N q hq).1, (N q hq).2⟩
end PartD1
section PartC1
open PySem PySem.W PyProof.Rows PySem.Calls PySem.Spec PyProof.Rows.LCg
theorem perm4 {a b c d : Addr × Obj} {r : List (Addr × Obj)} : ∀ p ∈ b :: c :: d :: a :: r, p ∈ a :: b :: c :: d :: r := fun p hp => by
  simp only [List.mem_cons] at hp ⊢
  rcases hp with h | h | h | h | h <;> simp [h]
section
variable {prog : Program} {w : World} {A : Around} {E : Value → Shared → Prop} {s : Shared} {h₀ : Heap} {L : Addr} {m : Str → Option Value} {env : Env}
/-- what a comprehension walks: any counted walk of the library's -/
def WAt (prog : Program) (w : World) (A : Around) (h₀ : Heap) (L : Addr) (m : Str → Option Value) (env : Env) (elt : Expr) (x : Str) (scope : Scope) (cl : List (Str × Addr)) (Fin : Shared → List Value → List (Addr × Obj) → Prop) (it : Value) (s₂ : Shared) : Prop :=
  ∃ I fp n P St S news, it = .ref I ∧ Walks prog w A I fp [I] n P St ∧ n ≤ sizeLine ∧ (∀ i h, St i h → ∃ o, h.get? I = some o) ∧
    (∀ i h h' o nw, St i h → h.get? I = some o → h'.get? I = some o → (∀ b o, h₀.get? b = some o → h'.get? b = some o) → News h₀ L h' nw → S nw → St i h') ∧
    St 0 s₂.heap ∧ (∀ b ∈ fp, b < s₂.heap.objs.size) ∧ Fr h₀ L s₂.heap m ∧ News h₀ L s₂.heap news ∧ L ≠ I ∧ h₀.get? I = none ∧ (∀ p ∈ news, p.1 ≠ I) ∧ S news ∧
    CompRest prog w A h₀ L m env elt x scope cl s₂ S P (Fin s₂) n 0 [] news
def WSrc (prog : Program) (w : World) (A : Around) (E : Value → Shared → Prop) (h₀ : Heap) (L : Addr) (m : Str → Option Value) (env : Env) (elt : Expr) (x : Str) (scope : Scope) (cl : List (Str × Addr)) (Fin : Shared → List Value → List (Addr × Obj) → Prop) (xv : Value) (s₁ : Shared) : Prop :=
  wpAny (model prog w) A (pyIter xv) (WAt prog w A h₀ L m env elt x scope cl Fin) E s₁
def ObjIn (t : Addr) (o' : Obj) (nw : List (Addr × Obj)) : Prop := False ∨ ∃ o, (t, o) ∈ nw ∧ o = o' ∧ ∃ n : Nat, n = 0
theorem ObjIn.mem {t : Addr} {o : Obj} {nw : List (Addr × Obj)} (x : ObjIn t o nw) : (t, o) ∈ nw := by
  rcases x with h | ⟨o', h, e, _⟩
  · exact h.elim
  · exact e ▸ h
theorem WSrc.tuple {elt : Expr} {x : Str} {scope : Scope} {cl : List (Str × Addr)} {Fin : Shared → List Value → List (Addr × Obj) → Prop} {t : Addr} {vs : List Value} {k : Nat} {news : List (Addr × Obj)} {s₁ : Shared}
    (hh : A.handled = none) (F : Fr h₀ L s₁.heap m) (N : News h₀ L s₁.heap news) (hm : (t, tup vs k) ∈ news) (hsz : vs.length ≤ sizeLine)
    (h : ∀ g, CompRest prog w A h₀ L m env elt x scope cl { s₁ with heap := g } (ObjIn t (tup vs k)) (fun i v => vs[i]? = some v) (Fin { s₁ with heap := g }) vs.length 0 [] news) :
    WSrc prog w A E h₀ L m env elt x scope cl Fin (.ref t) s₁ := by
  have hot : s₁.heap.get? t = some (tup vs k) := (N _ hm).1
  have hts : s₁.heap.IsTuple t vs.toArray := ⟨_, hot, rfl, k, rfl⟩
  have hlt : t < s₁.heap.objs.size := Heap.lt_size hot
  have htI : t ≠ s₁.heap.objs.size := Nat.ne_of_lt hlt
  refine wpAny_pyIter_tuple hts ?_
  have W := Walks.tuple (prog := prog) (w := w) hh s₁.heap.objs.size t htI vs.toArray
  rw [show vs.toArray.size = vs.length from List.size_toArray] at W
  have up : ∀ b o, s₁.heap.get? b = some o → (s₁.heap.push { cls := .type "tuple_iterator", data := .fields #[.ref t, .int 0 0] }).get? b = some o := fun b o e => Heap.get?_push_of_some _ e
  refine ⟨_, _, vs.length, _, _, ObjIn t (tup vs k), news, rfl, W, hsz, (fun i h st => by obtain ⟨o, e, _⟩ := st.1; exact ⟨o, e⟩), ?_, ⟨⟨_, Heap.get?_push_size _ rfl, rfl, rfl⟩, hts.at fun o e => Heap.get?_push_of_some _ e⟩, ?_, F.keeps up, N.grown up, Nat.ne_of_lt F.ns.lt, next_is_new F, (fun p hp => Nat.ne_of_lt (Heap.lt_size (N p hp).1)), .inr ⟨_, hm, rfl, 0, rfl⟩, ?_⟩
  · intro i h h' o nw st e e' kk N' S'
    exact ⟨by obtain ⟨o', q, r⟩ := st.1; rw [e] at q; cases q; exact ⟨o, e', r⟩, ⟨_, (N' _ S'.mem).1, rfl, k, rfl⟩⟩
  · intro b hb
    show b < (s₁.heap.push _).objs.size
    rw [Heap.size_push]
    rcases List.mem_cons.mp hb with rfl | hb
    · exact Nat.lt_succ_self _
    · rw [List.mem_singleton.mp hb]; exact Nat.lt_succ_of_lt hlt
  · have := h (s₁.heap.push { cls := .type "tuple_iterator", data := .fields #[.ref t, .int 0 0] })
    simpa using this
theorem WSrc.rev {elt : Expr} {x : Str} {scope : Scope} {cl : List (Str × Addr)} {Fin : Shared → List Value → List (Addr × Obj) → Prop} {I l : Addr} {vs : List Value} {k : Nat} {news : List (Addr × Obj)} {s₁ : Shared}
    (hh : A.handled = none) (F : Fr h₀ L s₁.heap m) (N : News h₀ L s₁.heap ((I, revObj l ((vs.length : Int) - 1)) :: news)) (off : ∀ p ∈ news, p.1 < I) (hm : (l, listOf vs.toArray k) ∈ news) (hsz : vs.length ≤ sizeLine)
    (h : ∀ g, CompRest prog w A h₀ L m env elt x scope cl { s₁ with heap := g } (ObjIn l (listOf vs.toArray k)) (fun i v => vs.toArray[vs.length - 1 - i]? = some v) (Fin { s₁ with heap := g }) vs.length 0 [] news) :
    WSrc prog w A E h₀ L m env elt x scope cl Fin (.ref I) s₁ := by
  have N₁ : News h₀ L s₁.heap news := fun p hp => N p (List.mem_cons_of_mem _ hp)
  have hI := N _ (List.mem_cons_self ..)
  have hol : s₁.heap.get? l = some (listOf vs.toArray k) := (N₁ _ hm).1
  have hl : s₁.heap.IsList l vs.toArray := ⟨_, hol, rfl, k, rfl⟩
  have hne : l ≠ I := Nat.ne_of_lt (off _ hm)
  have hit : s₁.heap.IsRevIter I l ((vs.length : Int) - 1) := ⟨_, hI.1, rfl, rfl⟩
  refine wpAny_pyIter_revIter hit ?_
  have W := Walks.listRev (prog := prog) (w := w) hh I l hne vs.toArray
  rw [show vs.toArray.size = vs.length from List.size_toArray] at W
  refine ⟨I, _, vs.length, _, _, ObjIn l (listOf vs.toArray k), news, rfl, W, hsz, (fun i h st => by obtain ⟨o, e, _⟩ := st.2.1; exact ⟨o, e⟩), ?_, ⟨Nat.zero_le _, by simpa using hit, hl⟩, ?_, F, N₁, fun e => hI.2.1 e.symm, hI.2.2, (fun p hp => Nat.ne_of_lt (off p hp)), .inr ⟨_, hm, rfl, 0, rfl⟩, ?_⟩
  · intro i h h' o nw st e e' kk N' S'
    exact ⟨st.1, by obtain ⟨o', q, r⟩ := st.2.1; rw [e] at q; cases q; exact ⟨o, e', r⟩, ⟨_, (N' _ S'.mem).1, rfl, k, rfl⟩⟩
  · intro b hb
    rcases List.mem_cons.mp hb with rfl | hb
    · exact Heap.lt_size hI.1
    · rw [List.mem_singleton.mp hb]; exact Heap.lt_size hol
  · exact h s₁.heap
theorem ListComp_W {elt iter : Expr} {x : Str} {px : Pos} {scope : Scope} {cl : List (Str × Addr)} {pos : Pos} {Q : Value → Shared → Prop} (F₀ : Fr h₀ L s.heap m)
    (hclos : closureFor scope env = pure cl) (hcell : ∀ y ∈ scope.names, y.2 ≠ .cell) (hkind : scope.kind = .function)
    (hnames : ∀ y ∈ scope.names, y.2 = .local → scope.names.lookup y.1 = some .local) (hx : scope.names.lookup x = some .local)
    (h : wpAny (model prog w) A (eval iter env) (WSrc prog w A E h₀ L m env elt x scope cl (fun s₂ => FinE h₀ L m s₂ Q)) E s)
    (hs : ∀ x, foldedSetIterable iter env x = pure x := by intro _; rfl) :
    wpAny (model prog w) A (eval (.ListComp elt [⟨.Name x px, iter, [], 0⟩] scope pos) env) Q E s := by
  rw [eval_ListComp]
  refine wpAny_comprehension_free (use := none) rfl hs hclos hkind hnames (wpAny_mono h (fun xv s₁ h₁ => ?_) fun _ _ e => e)
  refine wpAny_mono h₁ (fun it s₂ h₂ => ?_) fun _ _ e => e
  obtain ⟨I, fp, n, P, St, S, news, rfl, W, hsz, hIo, hSt, hst, hfp, F, N, hLI, hI₀, off, hS, R⟩ := h₂
  refine block_U W hsz hIo hSt hcell hkind hx hst hfp F N hLI hI₀ off hS R ?_
  intro D C h' tk m' ys news' F' N' o1 hn hC₀ hD₀ hCL hDL hCD offC fin
  refine ⟨m', hn, fun h'' hs'' => fin D h'' tk (F'.change hs'' hCL hC₀) (fun p hp => ?_) o1⟩
  refine ⟨hs''.extBut _ _ ?_ (N' p hp).1, (N' p hp).2⟩
  rcases List.mem_cons.mp hp with rfl | hp
  · exact Ne.symm hCD
  · exact offC p hp
theorem Assign_W {elt iter : Expr} {x y : Str} {px py : Pos} {scope : Scope} {cl : List (Str × Addr)} {pos spos : Pos} {Q : Flow → Shared → Prop} (F₀ : Fr h₀ L s.heap m) (hLe : env.locals = L)
    (hsw : swapsWith (.ListComp elt [⟨.Name x px, iter, [], 0⟩] scope pos) (some (.Name y py)) spos.line env = pure true)
    (hclos : closureFor scope env = pure cl) (hcell : ∀ z ∈ scope.names, z.2 ≠ .cell) (hkind : scope.kind = .function)
    (hnames : ∀ z ∈ scope.names, z.2 = .local → scope.names.lookup z.1 = some .local) (hx : scope.names.lookup x = some .local)
    (hy : env.kindOf y = some .local) (hp : (env.scope.kind == .class || (env.scope.kind == .module && env.locals != env.globals)) = false)
    (h : wpAny (model prog w) A (eval iter env) (WSrc prog w A E h₀ L m env elt x scope cl (fun s₂ => FinA h₀ L m s₂ y Q)) E s)
    (hs : ∀ x, foldedSetIterable iter env x = pure x := by intro _; rfl) :
    wpAny (model prog w) A (exec (.Assign [.Name y py] (.ListComp elt [⟨.Name x px, iter, [], 0⟩] scope pos) spos) env) Q E s := by
  subst hLe
  rw [exec_Assign_Name_used _ _ _ _ hsw]
  refine wpAny_bind (wpAny_standAt (wpAny_bind ?_))
  show wpAny _ A (do let _ ← comprehension (.ListComp elt [⟨.Name x px, iter, [], 0⟩] scope pos) scope env _ (newList []) false (eval iter env) (some (assign (.Name y py) env))) _ _ s
  refine wpAny_bind (wpAny_mono (wpAny_comprehension_free (use := some (assign (.Name y py) env)) (Q := fun _ s' => Q .next s') rfl hs hclos hkind hnames
    (wpAny_mono h (fun xv s₁ h₁ => ?_) fun _ _ e => e)) (fun _ s' hq => wpAny_pure (wpAny_pure hq)) fun _ _ e => e)
  refine wpAny_mono h₁ (fun it s₂ h₂ => ?_) fun _ _ e => e
  obtain ⟨I, fp, n, P, St, S, news, rfl, W, hsz, hIo, hSt, hst, hfp, F, N, hLI, hI₀, off, hS, R⟩ := h₂
  refine block_U W hsz hIo hSt hcell hkind hx hst hfp F N hLI hI₀ off hS R ?_
  intro D C h' tk m' ys news' F' N' o1 hn hC₀ hD₀ hCL hDL hCD offC fin
  show wpAny _ A (assign (.Name y py) env (.ref D)) _ _ _
  refine wpAny_assign_Name (wpAny_storeName_local hy F'.ns (fun h₂ hn₂ hs₂ => ?_) hp)
  have hL₀ : h₀.get? env.locals = none := Heap.get?_none_of_le F'.above
  have F₂ : Fr h₀ env.locals h₂ (fun z => if z = y then some (.ref D) else m z) := ⟨hn₂, fun b o e => hs₂.extBut b o (fun q => by rw [q, hL₀] at e; cases e) (F'.keep b o e), F'.above⟩
  refine ⟨m', hn.sameBut hs₂ hCL, fun h'' hs'' => fin D h'' _ (F₂.change hs'' hCL hC₀) (fun p hp => ?_) o1⟩
  have z : h₂.get? p.1 = some p.2 := hs₂.extBut _ _ (N' p hp).2.1 (N' p hp).1
  refine ⟨hs''.extBut _ _ ?_ z, (N' p hp).2⟩
  rcases List.mem_cons.mp hp with rfl | hp
  · exact Ne.symm hCD
  · exact offC p hp
end
end PartC1
local macro_rules | `(tactic| walk_at "exec Assign cons ListComp") => `(tactic| (k_here; k_dflt (refine Assign_W (F₀ := by k_asm) (by rfl) (by with_unfolding_all rfl) (by with_unfolding_all rfl) (by decide) (by rfl) (by decide) (by rfl) (by rfl) (by rfl) ?_)))
local macro_rules | `(tactic| walk_at "eval ListComp") => `(tactic| (k_here; k_dflt (refine ListComp_W (F₀ := by k_asm) (by with_unfolding_all rfl) (by decide) (by rfl) (by decide) (by rfl) ?_)))
local macro_rules | `(tactic| walk1) => `(tactic| ((with_reducible show LCg.CompRest _ _ _ _ _ _ _ _ _ _ _ _ _ _ _ _ _ _ _); walk_say "WALK CompRest"; with_unfolding_all (first
  | (refine LCg.CompRest.succ ?_; intro v' I' oI' C' oC' D' m' h' tk' E' hv' hC' hx' F' N' off' ne'; (obtain hv9 := Option.some.inj hv'; clear hv'; subst hv9))
  | refine LCg.CompRest.zero ?_)))
local macro_rules | `(tactic| walk_at "compareOp In str ref") => `(tactic| (k_here; with_unfolding_all (refine' in_tuple_strs ?k1 ?k2 ?_; (case k1 => exact Fr.tup (by k_asm) (tupK (by k_asm) (by k_is))); (case k2 => kde_strs)); k_whole))
section PartW1
local macro_rules | `(tactic| walk1) => `(tactic| ((with_reducible show WSrc _ _ _ _ _ _ _ _ _ _ _ _ _ _ _); walk_say "WALK WSrc"; k_dflt (first
  | (refine WSrc.tuple (by rfl) (by k_asm) (by k_asm) (by k_mem) (by first | size_fits | exact Nat.le_of_ble_eq_true rfl) ?_; intro g'; lcg_lit)
  | (refine WSrc.rev (by rfl) (by k_asm) (by k_asm) (by assumption) (by k_mem) (by first | size_fits | exact Nat.le_of_ble_eq_true rfl) ?_; intro g'; lcg_lit))))
local macro_rules | `(tactic| walk1) => `(tactic| ((with_reducible show LCg.CompEnd _ _ _ _ _ _ _ _ _ _ _ _ _ _); walk_say "WALK own CompEnd"; k_dflt (
  (rename Fr _ _ _ _ => F7); (rename News _ _ _ _ => N7);
  (first
  | (refine LCg.CompEnd.intro F7 N7 _ (fun _ h9 => h9) (by assumption) (Or.inr ⟨_, by k_mem, rfl, 0, rfl⟩) ?_)))))
theorem wtwo_add {w : World} {mean : ExcName → Option Value} {mg mb : Str → Option Value} {news : List (Addr × Obj)} {x y : Int} {t1 t2 t3 t4 t5 : Tok} (hx : -2000000000 ≤ x ∧ x ≤ 2000000000) (hy : -2000000000 ≤ y ∧ y ≤ 2000000000) (hn : -2147483648 ≤ x + y ∧ x + y < 2147483648) :
    Call w mean mg mb 304 [.str (Str.ofString "+") t1, .int x t2, .int y t3, .int 32 t4, .int 9 t5] 10 news fun led r => led = news ∧ ∃ t, r = .int (x + y) t := by
  unfold Call
  k_fill
  intro dp un gd cn cs a₁ ccd cl outer A₀ base h₀ L m s Q E B F X N TT hk hd₁ hu hret
  refine wpAny_call ?_
  k_dflt ktr_enter
  k_with_none
  repeat' (first | (k_unfold; (try dsimp only)) | (k_end; kc_close) | ((with_reducible show wpAny _ _ (PySem.call (Value.ref 86) _) _ _ _); k_dflt ((refine' Call.use ?k1 ?k2 ?k3 ?k4 ?k5 ?k6 (whole_of_is ?hq) ?k7 ?k8 ?_; (case k1 => k_asm); (case k2 => k_asm); (case k3 => k_asm); (case k4 => k_asm); (case hq => first | assumption | omega); (case k5 => k_asm); (case k6 => exact rfl); (case k7 => ktr_room); (case k8 => ktr_units); intro r9 led9 h9 tk9 F9 N9 P9; obtain ⟨e9, e9b⟩ := P9; replace e9 := e9.symm; subst e9; (try (refine Exists.elim e9b ?_; clear e9b; intro t9 e9b)); subst e9b; (try dsimp only); (try k_fold)))) | ((with_reducible show wpAny _ _ (PySem.call (Value.ref 192) _) _ _ _); k_dflt ((refine' Call.use ?k1 ?k2 ?k3 ?k4 ?k5 ?k6 (settled_is ?hq) ?k7 ?k8 ?_; (case k1 => k_asm); (case k2 => k_asm); (case k3 => k_asm); (case k4 => k_asm); (case hq => first | assumption | omega); (case k5 => k_asm); (case k6 => exact rfl); (case k7 => ktr_room); (case k8 => ktr_units); intro r9 led9 h9 tk9 F9 N9 P9; obtain ⟨e9, e9b⟩ := P9; replace e9 := e9.symm; subst e9; (try (refine Exists.elim e9b ?_; clear e9b; intro t9 e9b)); subst e9b; (try dsimp only); (try k_fold)))) | ((with_reducible show wpAny _ _ (PySem.call (Value.ref 79) _) _ _ _); k_dflt ((refine' Call.use ?k1 ?k2 ?k3 ?k4 ?k5 ?k6 (fits_is ?hq) ?k7 ?k8 ?_; (case k1 => k_asm); (case k2 => k_asm); (case k3 => k_asm); (case k4 => k_asm); (case hq => first | assumption | omega); (case k5 => k_asm); (case k6 => exact rfl); (case k7 => ktr_room); (case k8 => ktr_units); intro r9 led9 h9 tk9 F9 N9 P9; obtain ⟨e9, e9b⟩ := P9; replace e9 := e9.symm; subst e9; (try (refine Exists.elim e9b ?_; clear e9b; intro t9 e9b)); subst e9b; (try dsimp only); (try k_fold)))) | ((with_reducible show wpAny _ _ (PySem.call (Value.ref 44) _) _ _ _); k_dflt ((refine' Call.use ?k1 ?k2 ?k3 ?k4 ?k5 ?k6 kind_is ?k7 ?k8 ?_; (case k1 => k_asm); (case k2 => k_asm); (case k3 => k_asm); (case k4 => k_asm); (case k5 => k_asm); (case k6 => exact rfl); (case k7 => ktr_room); (case k8 => ktr_units); intro r9 led9 h9 tk9 F9 N9 P9; obtain ⟨e9, e9b⟩ := P9; replace e9 := e9.symm; subst e9; (try (refine Exists.elim e9b ?_; clear e9b; intro t9 e9b)); subst e9b; (try dsimp only); (try k_fold)))) | ((with_reducible show wpAny _ _ (PySem.call (Value.ref 185) _) _ _ _); k_dflt ((refine' Call.use ?k1 ?k2 ?k3 ?k4 ?k5 ?k6 whole_is ?k7 ?k8 ?_; (case k1 => k_asm); (case k2 => k_asm); (case k3 => k_asm); (case k4 => k_asm); (case k5 => k_asm); (case k6 => exact rfl); (case k7 => ktr_room); (case k8 => ktr_units); intro r9 led9 h9 tk9 F9 N9 P9; obtain ⟨e9, e9b⟩ := P9; replace e9 := e9.symm; subst e9; (try (refine Exists.elim e9b ?_; clear e9b; intro t9 e9b)); subst e9b; (try dsimp only); (try k_fold)))) | walk1 | (dsimp only; first | ((with_reducible show wpAny _ _ (PySem.call (Value.ref 86) _) _ _ _); k_dflt ((refine' Call.use ?k1 ?k2 ?k3 ?k4 ?k5 ?k6 (whole_of_is ?hq) ?k7 ?k8 ?_; (case k1 => k_asm); (case k2 => k_asm); (case k3 => k_asm); (case k4 => k_asm); (case hq => first | assumption | omega); (case k5 => k_asm); (case k6 => exact rfl); (case k7 => ktr_room); (case k8 => ktr_units); intro r9 led9 h9 tk9 F9 N9 P9; obtain ⟨e9, e9b⟩ := P9; replace e9 := e9.symm; subst e9; (try (refine Exists.elim e9b ?_; clear e9b; intro t9 e9b)); subst e9b; (try dsimp only); (try k_fold)))) | ((with_reducible show wpAny _ _ (PySem.call (Value.ref 192) _) _ _ _); k_dflt ((refine' Call.use ?k1 ?k2 ?k3 ?k4 ?k5 ?k6 (settled_is ?hq) ?k7 ?k8 ?_; (case k1 => k_asm); (case k2 => k_asm); (case k3 => k_asm); (case k4 => k_asm); (case hq => first | assumption | omega); (case k5 => k_asm); (case k6 => exact rfl); (case k7 => ktr_room); (case k8 => ktr_units); intro r9 led9 h9 tk9 F9 N9 P9; obtain ⟨e9, e9b⟩ := P9; replace e9 := e9.symm; subst e9; (try (refine Exists.elim e9b ?_; clear e9b; intro t9 e9b)); subst e9b; (try dsimp only); (try k_fold)))) | ((with_reducible show wpAny _ _ (PySem.call (Value.ref 79) _) _ _ _); k_dflt ((refine' Call.use ?k1 ?k2 ?k3 ?k4 ?k5 ?k6 (fits_is ?hq) ?k7 ?k8 ?_; (case k1 => k_asm); (case k2 => k_asm); (case k3 => k_asm); (case k4 => k_asm); (case hq => first | assumption | omega); (case k5 => k_asm); (case k6 => exact rfl); (case k7 => ktr_room); (case k8 => ktr_units); intro r9 led9 h9 tk9 F9 N9 P9; obtain ⟨e9, e9b⟩ := P9; replace e9 := e9.symm; subst e9; (try (refine Exists.elim e9b ?_; clear e9b; intro t9 e9b)); subst e9b; (try dsimp only); (try k_fold)))) | ((with_reducible show wpAny _ _ (PySem.call (Value.ref 44) _) _ _ _); k_dflt ((refine' Call.use ?k1 ?k2 ?k3 ?k4 ?k5 ?k6 kind_is ?k7 ?k8 ?_; (case k1 => k_asm); (case k2 => k_asm); (case k3 => k_asm); (case k4 => k_asm); (case k5 => k_asm); (case k6 => exact rfl); (case k7 => ktr_room); (case k8 => ktr_units); intro r9 led9 h9 tk9 F9 N9 P9; obtain ⟨e9, e9b⟩ := P9; replace e9 := e9.symm; subst e9; (try (refine Exists.elim e9b ?_; clear e9b; intro t9 e9b)); subst e9b; (try dsimp only); (try k_fold)))) | ((with_reducible show wpAny _ _ (PySem.call (Value.ref 185) _) _ _ _); k_dflt ((refine' Call.use ?k1 ?k2 ?k3 ?k4 ?k5 ?k6 whole_is ?k7 ?k8 ?_; (case k1 => k_asm); (case k2 => k_asm); (case k3 => k_asm); (case k4 => k_asm); (case k5 => k_asm); (case k6 => exact rfl); (case k7 => ktr_room); (case k8 => ktr_units); intro r9 led9 h9 tk9 F9 N9 P9; obtain ⟨e9, e9b⟩ := P9; replace e9 := e9.symm; subst e9; (try (refine Exists.elim e9b ?_; clear e9b; intro t9 e9b)); subst e9b; (try dsimp only); (try k_fold)))) | walk1) | (leave1; walk_say "STEP leave1"; (try dsimp only)) | fail "no step")
  (rename Fr _ _ _ _ => F7)
  (rename News _ _ _ _ => N7)
  exact hret _ _ _ _ F7 (fun p hp => N7 p (by first | assumption | (revert p; tb_start))) ⟨rfl, _, rfl⟩
theorem wtwo_sub {w : World} {mean : ExcName → Option Value} {mg mb : Str → Option Value} {news : List (Addr × Obj)} {x y : Int} {t1 t2 t3 t4 t5 : Tok} (hx : -2000000000 ≤ x ∧ x ≤ 2000000000) (hy : -2000000000 ≤ y ∧ y ≤ 2000000000) (hn : -2147483648 ≤ x - y ∧ x - y < 2147483648) :
    Call w mean mg mb 304 [.str (Str.ofString "-") t1, .int x t2, .int y t3, .int 32 t4, .int 9 t5] 10 news fun led r => led = news ∧ ∃ t, r = .int (x - y) t := by
  unfold Call
  k_fill
  intro dp un gd cn cs a₁ ccd cl outer A₀ base h₀ L m s Q E B F X N TT hk hd₁ hu hret
  refine wpAny_call ?_
  k_dflt ktr_enter
  k_with_none
  repeat' (first | (k_unfold; (try dsimp only)) | (k_end; kc_close) | ((with_reducible show wpAny _ _ (PySem.call (Value.ref 86) _) _ _ _); k_dflt ((refine' Call.use ?k1 ?k2 ?k3 ?k4 ?k5 ?k6 (whole_of_is ?hq) ?k7 ?k8 ?_; (case k1 => k_asm); (case k2 => k_asm); (case k3 => k_asm); (case k4 => k_asm); (case hq => first | assumption | omega); (case k5 => k_asm); (case k6 => exact rfl); (case k7 => ktr_room); (case k8 => ktr_units); intro r9 led9 h9 tk9 F9 N9 P9; obtain ⟨e9, e9b⟩ := P9; replace e9 := e9.symm; subst e9; (try (refine Exists.elim e9b ?_; clear e9b; intro t9 e9b)); subst e9b; (try dsimp only); (try k_fold)))) | ((with_reducible show wpAny _ _ (PySem.call (Value.ref 192) _) _ _ _); k_dflt ((refine' Call.use ?k1 ?k2 ?k3 ?k4 ?k5 ?k6 (settled_is ?hq) ?k7 ?k8 ?_; (case k1 => k_asm); (case k2 => k_asm); (case k3 => k_asm); (case k4 => k_asm); (case hq => first | assumption | omega); (case k5 => k_asm); (case k6 => exact rfl); (case k7 => ktr_room); (case k8 => ktr_units); intro r9 led9 h9 tk9 F9 N9 P9; obtain ⟨e9, e9b⟩ := P9; replace e9 := e9.symm; subst e9; (try (refine Exists.elim e9b ?_; clear e9b; intro t9 e9b)); subst e9b; (try dsimp only); (try k_fold)))) | ((with_reducible show wpAny _ _ (PySem.call (Value.ref 79) _) _ _ _); k_dflt ((refine' Call.use ?k1 ?k2 ?k3 ?k4 ?k5 ?k6 (fits_is ?hq) ?k7 ?k8 ?_; (case k1 => k_asm); (case k2 => k_asm); (case k3 => k_asm); (case k4 => k_asm); (case hq => first | assumption | omega); (case k5 => k_asm); (case k6 => exact rfl); (case k7 => ktr_room); (case k8 => ktr_units); intro r9 led9 h9 tk9 F9 N9 P9; obtain ⟨e9, e9b⟩ := P9; replace e9 := e9.symm; subst e9; (try (refine Exists.elim e9b ?_; clear e9b; intro t9 e9b)); subst e9b; (try dsimp only); (try k_fold)))) | ((with_reducible show wpAny _ _ (PySem.call (Value.ref 44) _) _ _ _); k_dflt ((refine' Call.use ?k1 ?k2 ?k3 ?k4 ?k5 ?k6 kind_is ?k7 ?k8 ?_; (case k1 => k_asm); (case k2 => k_asm); (case k3 => k_asm); (case k4 => k_asm); (case k5 => k_asm); (case k6 => exact rfl); (case k7 => ktr_room); (case k8 => ktr_units); intro r9 led9 h9 tk9 F9 N9 P9; obtain ⟨e9, e9b⟩ := P9; replace e9 := e9.symm; subst e9; (try (refine Exists.elim e9b ?_; clear e9b; intro t9 e9b)); subst e9b; (try dsimp only); (try k_fold)))) | ((with_reducible show wpAny _ _ (PySem.call (Value.ref 185) _) _ _ _); k_dflt ((refine' Call.use ?k1 ?k2 ?k3 ?k4 ?k5 ?k6 whole_is ?k7 ?k8 ?_; (case k1 => k_asm); (case k2 => k_asm); (case k3 => k_asm); (case k4 => k_asm); (case k5 => k_asm); (case k6 => exact rfl); (case k7 => ktr_room); (case k8 => ktr_units); intro r9 led9 h9 tk9 F9 N9 P9; obtain ⟨e9, e9b⟩ := P9; replace e9 := e9.symm; subst e9; (try (refine Exists.elim e9b ?_; clear e9b; intro t9 e9b)); subst e9b; (try dsimp only); (try k_fold)))) | walk1 | (dsimp only; first | ((with_reducible show wpAny _ _ (PySem.call (Value.ref 86) _) _ _ _); k_dflt ((refine' Call.use ?k1 ?k2 ?k3 ?k4 ?k5 ?k6 (whole_of_is ?hq) ?k7 ?k8 ?_; (case k1 => k_asm); (case k2 => k_asm); (case k3 => k_asm); (case k4 => k_asm); (case hq => first | assumption | omega); (case k5 => k_asm); (case k6 => exact rfl); (case k7 => ktr_room); (case k8 => ktr_units); intro r9 led9 h9 tk9 F9 N9 P9; obtain ⟨e9, e9b⟩ := P9; replace e9 := e9.symm; subst e9; (try (refine Exists.elim e9b ?_; clear e9b; intro t9 e9b)); subst e9b; (try dsimp only); (try k_fold)))) | ((with_reducible show wpAny _ _ (PySem.call (Value.ref 192) _) _ _ _); k_dflt ((refine' Call.use ?k1 ?k2 ?k3 ?k4 ?k5 ?k6 (settled_is ?hq) ?k7 ?k8 ?_; (case k1 => k_asm); (case k2 => k_asm); (case k3 => k_asm); (case k4 => k_asm); (case hq => first | assumption | omega); (case k5 => k_asm); (case k6 => exact rfl); (case k7 => ktr_room); (case k8 => ktr_units); intro r9 led9 h9 tk9 F9 N9 P9; obtain ⟨e9, e9b⟩ := P9; replace e9 := e9.symm; subst e9; (try (refine Exists.elim e9b ?_; clear e9b; intro t9 e9b)); subst e9b; (try dsimp only); (try k_fold)))) | ((with_reducible show wpAny _ _ (PySem.call (Value.ref 79) _) _ _ _); k_dflt ((refine' Call.use ?k1 ?k2 ?k3 ?k4 ?k5 ?k6 (fits_is ?hq) ?k7 ?k8 ?_; (case k1 => k_asm); (case k2 => k_asm); (case k3 => k_asm); (case k4 => k_asm); (case hq => first | assumption | omega); (case k5 => k_asm); (case k6 => exact rfl); (case k7 => ktr_room); (case k8 => ktr_units); intro r9 led9 h9 tk9 F9 N9 P9; obtain ⟨e9, e9b⟩ := P9; replace e9 := e9.symm; subst e9; (try (refine Exists.elim e9b ?_; clear e9b; intro t9 e9b)); subst e9b; (try dsimp only); (try k_fold)))) | ((with_reducible show wpAny _ _ (PySem.call (Value.ref 44) _) _ _ _); k_dflt ((refine' Call.use ?k1 ?k2 ?k3 ?k4 ?k5 ?k6 kind_is ?k7 ?k8 ?_; (case k1 => k_asm); (case k2 => k_asm); (case k3 => k_asm); (case k4 => k_asm); (case k5 => k_asm); (case k6 => exact rfl); (case k7 => ktr_room); (case k8 => ktr_units); intro r9 led9 h9 tk9 F9 N9 P9; obtain ⟨e9, e9b⟩ := P9; replace e9 := e9.symm; subst e9; (try (refine Exists.elim e9b ?_; clear e9b; intro t9 e9b)); subst e9b; (try dsimp only); (try k_fold)))) | ((with_reducible show wpAny _ _ (PySem.call (Value.ref 185) _) _ _ _); k_dflt ((refine' Call.use ?k1 ?k2 ?k3 ?k4 ?k5 ?k6 whole_is ?k7 ?k8 ?_; (case k1 => k_asm); (case k2 => k_asm); (case k3 => k_asm); (case k4 => k_asm); (case k5 => k_asm); (case k6 => exact rfl); (case k7 => ktr_room); (case k8 => ktr_units); intro r9 led9 h9 tk9 F9 N9 P9; obtain ⟨e9, e9b⟩ := P9; replace e9 := e9.symm; subst e9; (try (refine Exists.elim e9b ?_; clear e9b; intro t9 e9b)); subst e9b; (try dsimp only); (try k_fold)))) | walk1) | (leave1; walk_say "STEP leave1"; (try dsimp only)) | fail "no step")
  (rename Fr _ _ _ _ => F7)
  (rename News _ _ _ _ => N7)
  exact hret _ _ _ _ F7 (fun p hp => N7 p (by first | assumption | (revert p; tb_start))) ⟨rfl, _, rfl⟩
theorem wtwo_mul {w : World} {mean : ExcName → Option Value} {mg mb : Str → Option Value} {news : List (Addr × Obj)} {x y : Int} {t1 t2 t3 t4 t5 : Tok} (hx : -2000000000 ≤ x ∧ x ≤ 2000000000) (hy : -2000000000 ≤ y ∧ y ≤ 2000000000) (hn : -2147483648 ≤ x * y ∧ x * y < 2147483648) :
    Call w mean mg mb 304 [.str (Str.ofString "*") t1, .int x t2, .int y t3, .int 32 t4, .int 9 t5] 10 news fun led r => led = news ∧ ∃ t, r = .int (x * y) t := by
  unfold Call
  k_fill
  intro dp un gd cn cs a₁ ccd cl outer A₀ base h₀ L m s Q E B F X N TT hk hd₁ hu hret
  refine wpAny_call ?_
  k_dflt ktr_enter
  k_with_none
  repeat' (first | (k_unfold; (try dsimp only)) | (k_end; kc_close) | ((with_reducible show wpAny _ _ (PySem.call (Value.ref 86) _) _ _ _); k_dflt ((refine' Call.use ?k1 ?k2 ?k3 ?k4 ?k5 ?k6 (whole_of_is ?hq) ?k7 ?k8 ?_; (case k1 => k_asm); (case k2 => k_asm); (case k3 => k_asm); (case k4 => k_asm); (case hq => first | assumption | omega); (case k5 => k_asm); (case k6 => exact rfl); (case k7 => ktr_room); (case k8 => ktr_units); intro r9 led9 h9 tk9 F9 N9 P9; obtain ⟨e9, e9b⟩ := P9; replace e9 := e9.symm; subst e9; (try (refine Exists.elim e9b ?_; clear e9b; intro t9 e9b)); subst e9b; (try dsimp only); (try k_fold)))) | ((with_reducible show wpAny _ _ (PySem.call (Value.ref 192) _) _ _ _); k_dflt ((refine' Call.use ?k1 ?k2 ?k3 ?k4 ?k5 ?k6 (settled_is ?hq) ?k7 ?k8 ?_; (case k1 => k_asm); (case k2 => k_asm); (case k3 => k_asm); (case k4 => k_asm); (case hq => first | assumption | omega); (case k5 => k_asm); (case k6 => exact rfl); (case k7 => ktr_room); (case k8 => ktr_units); intro r9 led9 h9 tk9 F9 N9 P9; obtain ⟨e9, e9b⟩ := P9; replace e9 := e9.symm; subst e9; (try (refine Exists.elim e9b ?_; clear e9b; intro t9 e9b)); subst e9b; (try dsimp only); (try k_fold)))) | ((with_reducible show wpAny _ _ (PySem.call (Value.ref 79) _) _ _ _); k_dflt ((refine' Call.use ?k1 ?k2 ?k3 ?k4 ?k5 ?k6 (fits_is ?hq) ?k7 ?k8 ?_; (case k1 => k_asm); (case k2 => k_asm); (case k3 => k_asm); (case k4 => k_asm); (case hq => first | assumption | omega); (case k5 => k_asm); (case k6 => exact rfl); (case k7 => ktr_room); (case k8 => ktr_units); intro r9 led9 h9 tk9 F9 N9 P9; obtain ⟨e9, e9b⟩ := P9; replace e9 := e9.symm; subst e9; (try (refine Exists.elim e9b ?_; clear e9b; intro t9 e9b)); subst e9b; (try dsimp only); (try k_fold)))) | ((with_reducible show wpAny _ _ (PySem.call (Value.ref 44) _) _ _ _); k_dflt ((refine' Call.use ?k1 ?k2 ?k3 ?k4 ?k5 ?k6 kind_is ?k7 ?k8 ?_; (case k1 => k_asm); (case k2 => k_asm); (case k3 => k_asm); (case k4 => k_asm); (case k5 => k_asm); (case k6 => exact rfl); (case k7 => ktr_room); (case k8 => ktr_units); intro r9 led9 h9 tk9 F9 N9 P9; obtain ⟨e9, e9b⟩ := P9; replace e9 := e9.symm; subst e9; (try (refine Exists.elim e9b ?_; clear e9b; intro t9 e9b)); subst e9b; (try dsimp only); (try k_fold)))) | ((with_reducible show wpAny _ _ (PySem.call (Value.ref 185) _) _ _ _); k_dflt ((refine' Call.use ?k1 ?k2 ?k3 ?k4 ?k5 ?k6 whole_is ?k7 ?k8 ?_; (case k1 => k_asm); (case k2 => k_asm); (case k3 => k_asm); (case k4 => k_asm); (case k5 => k_asm); (case k6 => exact rfl); (case k7 => ktr_room); (case k8 => ktr_units); intro r9 led9 h9 tk9 F9 N9 P9; obtain ⟨e9, e9b⟩ := P9; replace e9 := e9.symm; subst e9; (try (refine Exists.elim e9b ?_; clear e9b; intro t9 e9b)); subst e9b; (try dsimp only); (try k_fold)))) | walk1 | (dsimp only; first | ((with_reducible show wpAny _ _ (PySem.call (Value.ref 86) _) _ _ _); k_dflt ((refine' Call.use ?k1 ?k2 ?k3 ?k4 ?k5 ?k6 (whole_of_is ?hq) ?k7 ?k8 ?_; (case k1 => k_asm); (case k2 => k_asm); (case k3 => k_asm); (case k4 => k_asm); (case hq => first | assumption | omega); (case k5 => k_asm); (case k6 => exact rfl); (case k7 => ktr_room); (case k8 => ktr_units); intro r9 led9 h9 tk9 F9 N9 P9; obtain ⟨e9, e9b⟩ := P9; replace e9 := e9.symm; subst e9; (try (refine Exists.elim e9b ?_; clear e9b; intro t9 e9b)); subst e9b; (try dsimp only); (try k_fold)))) | ((with_reducible show wpAny _ _ (PySem.call (Value.ref 192) _) _ _ _); k_dflt ((refine' Call.use ?k1 ?k2 ?k3 ?k4 ?k5 ?k6 (settled_is ?hq) ?k7 ?k8 ?_; (case k1 => k_asm); (case k2 => k_asm); (case k3 => k_asm); (case k4 => k_asm); (case hq => first | assumption | omega); (case k5 => k_asm); (case k6 => exact rfl); (case k7 => ktr_room); (case k8 => ktr_units); intro r9 led9 h9 tk9 F9 N9 P9; obtain ⟨e9, e9b⟩ := P9; replace e9 := e9.symm; subst e9; (try (refine Exists.elim e9b ?_; clear e9b; intro t9 e9b)); subst e9b; (try dsimp only); (try k_fold)))) | ((with_reducible show wpAny _ _ (PySem.call (Value.ref 79) _) _ _ _); k_dflt ((refine' Call.use ?k1 ?k2 ?k3 ?k4 ?k5 ?k6 (fits_is ?hq) ?k7 ?k8 ?_; (case k1 => k_asm); (case k2 => k_asm); (case k3 => k_asm); (case k4 => k_asm); (case hq => first | assumption | omega); (case k5 => k_asm); (case k6 => exact rfl); (case k7 => ktr_room); (case k8 => ktr_units); intro r9 led9 h9 tk9 F9 N9 P9; obtain ⟨e9, e9b⟩ := P9; replace e9 := e9.symm; subst e9; (try (refine Exists.elim e9b ?_; clear e9b; intro t9 e9b)); subst e9b; (try dsimp only); (try k_fold)))) | ((with_reducible show wpAny _ _ (PySem.call (Value.ref 44) _) _ _ _); k_dflt ((refine' Call.use ?k1 ?k2 ?k3 ?k4 ?k5 ?k6 kind_is ?k7 ?k8 ?_; (case k1 => k_asm); (case k2 => k_asm); (case k3 => k_asm); (case k4 => k_asm); (case k5 => k_asm); (case k6 => exact rfl); (case k7 => ktr_room); (case k8 => ktr_units); intro r9 led9 h9 tk9 F9 N9 P9; obtain ⟨e9, e9b⟩ := P9; replace e9 := e9.symm; subst e9; (try (refine Exists.elim e9b ?_; clear e9b; intro t9 e9b)); subst e9b; (try dsimp only); (try k_fold)))) | ((with_reducible show wpAny _ _ (PySem.call (Value.ref 185) _) _ _ _); k_dflt ((refine' Call.use ?k1 ?k2 ?k3 ?k4 ?k5 ?k6 whole_is ?k7 ?k8 ?_; (case k1 => k_asm); (case k2 => k_asm); (case k3 => k_asm); (case k4 => k_asm); (case k5 => k_asm); (case k6 => exact rfl); (case k7 => ktr_room); (case k8 => ktr_units); intro r9 led9 h9 tk9 F9 N9 P9; obtain ⟨e9, e9b⟩ := P9; replace e9 := e9.symm; subst e9; (try (refine Exists.elim e9b ?_; clear e9b; intro t9 e9b)); subst e9b; (try dsimp only); (try k_fold)))) | walk1) | (leave1; walk_say "STEP leave1"; (try dsimp only)) | fail "no step")
  (rename Fr _ _ _ _ => F7)
  (rename News _ _ _ _ => N7)
  exact hret _ _ _ _ F7 (fun p hp => N7 p (by first | assumption | (revert p; tb_start))) ⟨rfl, _, rfl⟩
end PartW1
local macro_rules | `(tactic| walk_at "call builtin:list.append") => `(tactic| (k_here; (with_reducible show wpAny _ _ (call (Value.builtin _) [Value.ref _, _]) _ _ _); k_dflt ((refine' app_L ?k1 ?k2 ?k3 ?z ?_; (case k1 => k_asm); (case k2 => k_asm); (case k3 => k_upd); (case z => omega)); intro h' F' N'; (try k_sweep))))
section PartW2
open PyProof.V PySem.Spec
local macro_rules | `(tactic| ktn_open) => `(tactic| (repeat ((with_reducible rename (_ ∧ _) => c9); obtain ⟨_, _⟩ := c9)))

theorem notin_one {prog : Program} {w : World} {A : Around} {E : Value → Shared → Prop} {s : Shared} {h₀ : Heap} {L d : Addr} {news : List (Addr × Obj)} {o : Obj} {x : Str} {tx : Tok} {v : Value} {Q : Value → Shared → Prop}
    (N : News h₀ L s.heap news) (hp : (d, o) ∈ news) (hd : o.IsDictOf (PySem.strKind prog w) [(x, v)]) (lo : (d == sysModules) = false) (h : Q (.bool false) { s with toks := s.toks + 1 }) :
    wpAny (model prog w) A (compareOp .NotIn (.str x tx) (.ref d)) Q E s := by
  exact wpAny_notIn_of (strKind_is _ _ _ _) lo (kda_dict N hp hd).mapOf (by simpa [valueAt] using h)
local macro_rules | `(tactic| walk_at "subscriptTail") => `(tactic| (k_here; k_dflt (first | ((with_reducible show wpAny _ _ (subscriptTail _ _ (Value.ref _) (Value.int _ _)) _ _ _); refine item_listL (News.isList (by k_asm) (by k_mem)) (by decide) (by decide) (by rfl) ?_) | ((with_reducible show wpAny _ _ (subscriptTail _ _ (Value.ref _) (Value.str _ _)) _ _ _); refine kda_item (knd := PySem.strKind _ _) (by k_asm) (by k_mem) (by assumption) (strKind_is _ _ _ _) (by rfl) ?_))))
local macro_rules | `(tactic| walk_at "compareOp NotIn str ref") => `(tactic| (k_here; k_dflt (refine notin_one (by k_asm) (by k_mem) (by assumption) (by assumption) ?_)))
theorem parts_x {w : World} {mean : ExcName → Option Value} {mg mb : Str → Option Value} {news : List (Addr × Obj)} {a : Addr} {t1 t2 : Tok} {n : Nat} (hm : (a, tup [.str (Str.ofString "name") t1, .str (Str.ofString "X") t2] n) ∈ news) :
    Call w mean mg mb 276 [.ref a] 3 news fun led r => ∃ pl k, led = (pl, listOf #[] k) :: news ∧ r = .ref pl ∧ AllLt pl news := by
  unfold Call
  k_fill
  intro dp un gd cn cs a₁ ccd cl outer A₀ base h₀ L m s Q E B F X N TT hk hd₁ hu hret
  refine wpAny_call ?_
  k_dflt ktr_enter
  k_with_none
  repeat' (first | (k_unfold; (try dsimp only)) | (k_end; kc_close) | ((with_reducible show wpAny _ _ (PySem.call (Value.ref 79) _) _ _ _); k_dflt ((refine' Call.use ?k1 ?k2 ?k3 ?k4 ?k5 ?k6 (fits_is ?hq) ?k7 ?k8 ?_; (case k1 => k_asm); (case k2 => k_asm); (case k3 => k_asm); (case k4 => k_asm); (case hq => first | assumption | omega); (case k5 => k_asm); (case k6 => exact rfl); (case k7 => ktr_room); (case k8 => ktr_units); intro r9 led9 h9 tk9 F9 N9 P9; obtain ⟨e9, e9b⟩ := P9; replace e9 := e9.symm; subst e9; (try (refine Exists.elim e9b ?_; clear e9b; intro t9 e9b)); subst e9b; (try dsimp only); (try k_fold)))) | walk1 | (dsimp only; first | ((with_reducible show wpAny _ _ (PySem.call (Value.ref 79) _) _ _ _); k_dflt ((refine' Call.use ?k1 ?k2 ?k3 ?k4 ?k5 ?k6 (fits_is ?hq) ?k7 ?k8 ?_; (case k1 => k_asm); (case k2 => k_asm); (case k3 => k_asm); (case k4 => k_asm); (case hq => first | assumption | omega); (case k5 => k_asm); (case k6 => exact rfl); (case k7 => ktr_room); (case k8 => ktr_units); intro r9 led9 h9 tk9 F9 N9 P9; obtain ⟨e9, e9b⟩ := P9; replace e9 := e9.symm; subst e9; (try (refine Exists.elim e9b ?_; clear e9b; intro t9 e9b)); subst e9b; (try dsimp only); (try k_fold)))) | walk1) | (leave1; walk_say "STEP leave1"; (try dsimp only)) | fail "no step")
  (rename Fr _ _ _ _ => F7)
  (rename News _ _ _ _ => N7)
  ktn_open
  refine hret _ _ _ _ F7 ?n7 ⟨_, 0, rfl, rfl, by assumption⟩
  intro p9 h9
  refine N7 p9 ?_
  revert p9
  tb_start
theorem parts_num {w : World} {mean : ExcName → Option Value} {mg mb : Str → Option Value} {news : List (Addr × Obj)} {a : Addr} {t1 t2 : Tok} {n : Nat} {c : Int} (hm : (a, tup [.str (Str.ofString "whole") t1, .int c t2] n) ∈ news) :
    Call w mean mg mb 276 [.ref a] 3 news fun led r => ∃ pl k, led = (pl, listOf #[] k) :: news ∧ r = .ref pl ∧ AllLt pl news := by
  unfold Call
  k_fill
  intro dp un gd cn cs a₁ ccd cl outer A₀ base h₀ L m s Q E B F X N TT hk hd₁ hu hret
  refine wpAny_call ?_
  k_dflt ktr_enter
  k_with_none
  repeat' (first | (k_unfold; (try dsimp only)) | (k_end; kc_close) | ((with_reducible show wpAny _ _ (PySem.call (Value.ref 79) _) _ _ _); k_dflt ((refine' Call.use ?k1 ?k2 ?k3 ?k4 ?k5 ?k6 (fits_is ?hq) ?k7 ?k8 ?_; (case k1 => k_asm); (case k2 => k_asm); (case k3 => k_asm); (case k4 => k_asm); (case hq => first | assumption | omega); (case k5 => k_asm); (case k6 => exact rfl); (case k7 => ktr_room); (case k8 => ktr_units); intro r9 led9 h9 tk9 F9 N9 P9; obtain ⟨e9, e9b⟩ := P9; replace e9 := e9.symm; subst e9; (try (refine Exists.elim e9b ?_; clear e9b; intro t9 e9b)); subst e9b; (try dsimp only); (try k_fold)))) | walk1 | (dsimp only; first | ((with_reducible show wpAny _ _ (PySem.call (Value.ref 79) _) _ _ _); k_dflt ((refine' Call.use ?k1 ?k2 ?k3 ?k4 ?k5 ?k6 (fits_is ?hq) ?k7 ?k8 ?_; (case k1 => k_asm); (case k2 => k_asm); (case k3 => k_asm); (case k4 => k_asm); (case hq => first | assumption | omega); (case k5 => k_asm); (case k6 => exact rfl); (case k7 => ktr_room); (case k8 => ktr_units); intro r9 led9 h9 tk9 F9 N9 P9; obtain ⟨e9, e9b⟩ := P9; replace e9 := e9.symm; subst e9; (try (refine Exists.elim e9b ?_; clear e9b; intro t9 e9b)); subst e9b; (try dsimp only); (try k_fold)))) | walk1) | (leave1; walk_say "STEP leave1"; (try dsimp only)) | fail "no step")
  (rename Fr _ _ _ _ => F7)
  (rename News _ _ _ _ => N7)
  ktn_open
  refine hret _ _ _ _ F7 ?n7 ⟨_, 0, rfl, rfl, by assumption⟩
  intro p9 h9
  refine N7 p9 ?_
  revert p9
  tb_start
theorem parts_two {w : World} {mean : ExcName → Option Value} {mg mb : Str → Option Value} {news : List (Addr × Obj)} {a : Addr} {t1 : Tok} {op u v : Value} {n : Nat} (hm : (a, tup [.str (Str.ofString "two") t1, op, u, v] n) ∈ news) :
    Call w mean mg mb 276 [.ref a] 3 news fun led r => ∃ pl k, led = (pl, listOf #[u, v] k) :: news ∧ r = .ref pl ∧ AllLt pl news := by
  unfold Call
  k_fill
  intro dp un gd cn cs a₁ ccd cl outer A₀ base h₀ L m s Q E B F X N TT hk hd₁ hu hret
  refine wpAny_call ?_
  k_dflt ktr_enter
  k_with_none
  repeat' (first | (k_unfold; (try dsimp only)) | (k_end; kc_close) | ((with_reducible show wpAny _ _ (PySem.call (Value.ref 79) _) _ _ _); k_dflt ((refine' Call.use ?k1 ?k2 ?k3 ?k4 ?k5 ?k6 (fits_is ?hq) ?k7 ?k8 ?_; (case k1 => k_asm); (case k2 => k_asm); (case k3 => k_asm); (case k4 => k_asm); (case hq => first | assumption | omega); (case k5 => k_asm); (case k6 => exact rfl); (case k7 => ktr_room); (case k8 => ktr_units); intro r9 led9 h9 tk9 F9 N9 P9; obtain ⟨e9, e9b⟩ := P9; replace e9 := e9.symm; subst e9; (try (refine Exists.elim e9b ?_; clear e9b; intro t9 e9b)); subst e9b; (try dsimp only); (try k_fold)))) | walk1 | (dsimp only; first | ((with_reducible show wpAny _ _ (PySem.call (Value.ref 79) _) _ _ _); k_dflt ((refine' Call.use ?k1 ?k2 ?k3 ?k4 ?k5 ?k6 (fits_is ?hq) ?k7 ?k8 ?_; (case k1 => k_asm); (case k2 => k_asm); (case k3 => k_asm); (case k4 => k_asm); (case hq => first | assumption | omega); (case k5 => k_asm); (case k6 => exact rfl); (case k7 => ktr_room); (case k8 => ktr_units); intro r9 led9 h9 tk9 F9 N9 P9; obtain ⟨e9, e9b⟩ := P9; replace e9 := e9.symm; subst e9; (try (refine Exists.elim e9b ?_; clear e9b; intro t9 e9b)); subst e9b; (try dsimp only); (try k_fold)))) | walk1) | (leave1; walk_say "STEP leave1"; (try dsimp only)) | fail "no step")
  (rename Fr _ _ _ _ => F7)
  (rename News _ _ _ _ => N7)
  ktn_open
  refine hret _ _ _ _ F7 ?n7 ⟨_, 0, rfl, rfl, by assumption⟩
  intro p9 h9
  refine N7 p9 ?_
  revert p9
  tb_start
theorem leaf_is {w : World} {mean : ExcName → Option Value} {mg mb : Str → Option Value} {news : List (Addr × Obj)} {a : Addr} {t1 t2 t3 t4 : Tok} {n : Nat} {c : Int} (hc : -2147483648 ≤ c ∧ c < 2147483648) (hm : (a, tup [.str (Str.ofString "whole") t1, .int c t2] n) ∈ news) :
    Call w mean mg mb 318 [.ref a, .int 32 t3, .int 9 t4] 4 news fun led r => led = news ∧ ∃ t, r = .int c t := by
  unfold Call
  k_fill
  intro dp un gd cn cs a₁ ccd cl outer A₀ base h₀ L m s Q E B F X N TT hk hd₁ hu hret
  refine wpAny_call ?_
  k_dflt ktr_enter
  k_with_none
  repeat' (first | (k_unfold; (try dsimp only)) | (k_end; kc_close) | ((with_reducible show wpAny _ _ (PySem.call (Value.ref 79) _) _ _ _); k_dflt ((refine' Call.use ?k1 ?k2 ?k3 ?k4 ?k5 ?k6 (fits_is ?hq) ?k7 ?k8 ?_; (case k1 => k_asm); (case k2 => k_asm); (case k3 => k_asm); (case k4 => k_asm); (case hq => first | assumption | omega); (case k5 => k_asm); (case k6 => exact rfl); (case k7 => ktr_room); (case k8 => ktr_units); intro r9 led9 h9 tk9 F9 N9 P9; obtain ⟨e9, e9b⟩ := P9; replace e9 := e9.symm; subst e9; (try (refine Exists.elim e9b ?_; clear e9b; intro t9 e9b)); subst e9b; (try dsimp only); (try k_fold)))) | walk1 | (dsimp only; first | ((with_reducible show wpAny _ _ (PySem.call (Value.ref 79) _) _ _ _); k_dflt ((refine' Call.use ?k1 ?k2 ?k3 ?k4 ?k5 ?k6 (fits_is ?hq) ?k7 ?k8 ?_; (case k1 => k_asm); (case k2 => k_asm); (case k3 => k_asm); (case k4 => k_asm); (case hq => first | assumption | omega); (case k5 => k_asm); (case k6 => exact rfl); (case k7 => ktr_room); (case k8 => ktr_units); intro r9 led9 h9 tk9 F9 N9 P9; obtain ⟨e9, e9b⟩ := P9; replace e9 := e9.symm; subst e9; (try (refine Exists.elim e9b ?_; clear e9b; intro t9 e9b)); subst e9b; (try dsimp only); (try k_fold)))) | walk1) | (leave1; walk_say "STEP leave1"; (try dsimp only)) | fail "no step")
  (rename Fr _ _ _ _ => F7)
  (rename News _ _ _ _ => N7)
  exact hret _ _ _ _ F7 N7 ⟨rfl, _, rfl⟩
open PyProof.V PySem.Spec
local macro_rules | `(tactic| walk_at "subscriptTail") => `(tactic| (k_here; k_dflt (first | ((with_reducible show wpAny _ _ (subscriptTail _ _ (Value.ref _) (Value.int _ _)) _ _ _); refine item_listL (News.isList (by k_asm) (by k_mem)) (by decide) (by decide) (by rfl) ?_) | ((with_reducible show wpAny _ _ (subscriptTail _ _ (Value.ref _) (Value.str _ _)) _ _ _); refine kda_item (knd := PySem.strKind _ _) (by k_asm) (by k_mem) (by assumption) (strKind_is _ _ _ _) (by rfl) ?_))))
local macro_rules | `(tactic| walk_at "compareOp NotIn str ref") => `(tactic| (k_here; k_dflt (refine notin_one (by k_asm) (by k_mem) (by assumption) (by assumption) ?_)))
theorem wtree_num {w : World} {mean : ExcName → Option Value} {mg mb : Str → Option Value} {news : List (Addr × Obj)} {a pl : Addr} {t1 t2 : Tok} {n : Nat} {c : Int} (hc : -2147483648 ≤ c ∧ c < 2147483648) (hm : (a, tup [.str (Str.ofString "whole") t1, .int c t2] n) ∈ news) {h dx dd ak : Addr} {q1 q2 q3 q4 q5 q6 : Tok} (hk1 : (h, instObj 382 dx) ∈ news) (hk2 : (dx, dictOf [⟨PyData.keyHash w.params (Str.ofString "values"), .str (Str.ofString "values") q1, .ref dd⟩, ⟨PyData.keyHash w.params (Str.ofString "bits"), .str (Str.ofString "bits") q2, .int 32 q3⟩, ⟨PyData.keyHash w.params (Str.ofString "digits"), .str (Str.ofString "digits") q4, .int 9 q5⟩, ⟨PyData.keyHash w.params (Str.ofString "asked"), .str (Str.ofString "asked") q6, .ref ak⟩] 4) ∈ news) :
    Call w mean mg mb 325 [.ref a, .ref pl, .ref h] 6 news fun led r => led = news ∧ ∃ t, r = .int c t := by
  unfold Call
  k_fill
  intro dp un gd cn cs a₁ ccd cl outer A₀ base h₀ L m s Q E B F X N TT hk hd₁ hu hret
  refine wpAny_call ?_
  k_dflt ktr_enter
  k_with_none
  repeat' (first | (k_unfold; (try dsimp only)) | (k_end; kc_close) | ((with_reducible show wpAny _ _ (PySem.call (Value.ref 304) _) _ _ _); k_dflt ((refine' Call.use ?k1 ?k2 ?k3 ?k4 ?k5 ?k6 (wtwo_mul ?ha ?hb ?hc) ?k7 ?k8 ?_; (case k1 => k_asm); (case k2 => k_asm); (case k3 => k_asm); (case k4 => k_asm); (case ha => assumption); (case hb => assumption); (case hc => assumption); (case k5 => k_asm); (case k6 => exact rfl); (case k7 => ktr_room); (case k8 => ktr_units); intro r9 led9 h9 tk9 F9 N9 P9; obtain ⟨e9, e9b⟩ := P9; replace e9 := e9.symm; subst e9; (try (refine Exists.elim e9b ?_; clear e9b; intro t9 e9b)); subst e9b; (try dsimp only); (try k_fold)))) | ((with_reducible show wpAny _ _ (PySem.call (Value.ref 304) _) _ _ _); k_dflt ((refine' Call.use ?k1 ?k2 ?k3 ?k4 ?k5 ?k6 (wtwo_sub ?ha ?hb ?hc) ?k7 ?k8 ?_; (case k1 => k_asm); (case k2 => k_asm); (case k3 => k_asm); (case k4 => k_asm); (case ha => assumption); (case hb => assumption); (case hc => assumption); (case k5 => k_asm); (case k6 => exact rfl); (case k7 => ktr_room); (case k8 => ktr_units); intro r9 led9 h9 tk9 F9 N9 P9; obtain ⟨e9, e9b⟩ := P9; replace e9 := e9.symm; subst e9; (try (refine Exists.elim e9b ?_; clear e9b; intro t9 e9b)); subst e9b; (try dsimp only); (try k_fold)))) | ((with_reducible show wpAny _ _ (PySem.call (Value.ref 304) _) _ _ _); k_dflt ((refine' Call.use ?k1 ?k2 ?k3 ?k4 ?k5 ?k6 (wtwo_add ?ha ?hb ?hc) ?k7 ?k8 ?_; (case k1 => k_asm); (case k2 => k_asm); (case k3 => k_asm); (case k4 => k_asm); (case ha => assumption); (case hb => assumption); (case hc => assumption); (case k5 => k_asm); (case k6 => exact rfl); (case k7 => ktr_room); (case k8 => ktr_units); intro r9 led9 h9 tk9 F9 N9 P9; obtain ⟨e9, e9b⟩ := P9; replace e9 := e9.symm; subst e9; (try (refine Exists.elim e9b ?_; clear e9b; intro t9 e9b)); subst e9b; (try dsimp only); (try k_fold)))) | ((with_reducible show wpAny _ _ (PySem.call (Value.ref 318) _) _ _ _); k_dflt ((refine' Call.use ?k1 ?k2 ?k3 ?k4 ?k5 ?k6 (leaf_is ?hq ?hm) ?k7 ?k8 ?_; (case k1 => k_asm); (case k2 => k_asm); (case k3 => k_asm); (case k4 => k_asm); (case hq => first | assumption | omega); (case hm => k_mem); (case k5 => k_asm); (case k6 => exact rfl); (case k7 => ktr_room); (case k8 => ktr_units); intro r9 led9 h9 tk9 F9 N9 P9; obtain ⟨e9, e9b⟩ := P9; replace e9 := e9.symm; subst e9; (try (refine Exists.elim e9b ?_; clear e9b; intro t9 e9b)); subst e9b; (try dsimp only); (try k_fold)))) | ((with_reducible show wpAny _ _ (PySem.call (Value.ref 79) _) _ _ _); k_dflt ((refine' Call.use ?k1 ?k2 ?k3 ?k4 ?k5 ?k6 (fits_is ?hq) ?k7 ?k8 ?_; (case k1 => k_asm); (case k2 => k_asm); (case k3 => k_asm); (case k4 => k_asm); (case hq => first | assumption | omega); (case k5 => k_asm); (case k6 => exact rfl); (case k7 => ktr_room); (case k8 => ktr_units); intro r9 led9 h9 tk9 F9 N9 P9; obtain ⟨e9, e9b⟩ := P9; replace e9 := e9.symm; subst e9; (try (refine Exists.elim e9b ?_; clear e9b; intro t9 e9b)); subst e9b; (try dsimp only); (try k_fold)))) | walk1 | (dsimp only; first | ((with_reducible show wpAny _ _ (PySem.call (Value.ref 304) _) _ _ _); k_dflt ((refine' Call.use ?k1 ?k2 ?k3 ?k4 ?k5 ?k6 (wtwo_mul ?ha ?hb ?hc) ?k7 ?k8 ?_; (case k1 => k_asm); (case k2 => k_asm); (case k3 => k_asm); (case k4 => k_asm); (case ha => assumption); (case hb => assumption); (case hc => assumption); (case k5 => k_asm); (case k6 => exact rfl); (case k7 => ktr_room); (case k8 => ktr_units); intro r9 led9 h9 tk9 F9 N9 P9; obtain ⟨e9, e9b⟩ := P9; replace e9 := e9.symm; subst e9; (try (refine Exists.elim e9b ?_; clear e9b; intro t9 e9b)); subst e9b; (try dsimp only); (try k_fold)))) | ((with_reducible show wpAny _ _ (PySem.call (Value.ref 304) _) _ _ _); k_dflt ((refine' Call.use ?k1 ?k2 ?k3 ?k4 ?k5 ?k6 (wtwo_sub ?ha ?hb ?hc) ?k7 ?k8 ?_; (case k1 => k_asm); (case k2 => k_asm); (case k3 => k_asm); (case k4 => k_asm); (case ha => assumption); (case hb => assumption); (case hc => assumption); (case k5 => k_asm); (case k6 => exact rfl); (case k7 => ktr_room); (case k8 => ktr_units); intro r9 led9 h9 tk9 F9 N9 P9; obtain ⟨e9, e9b⟩ := P9; replace e9 := e9.symm; subst e9; (try (refine Exists.elim e9b ?_; clear e9b; intro t9 e9b)); subst e9b; (try dsimp only); (try k_fold)))) | ((with_reducible show wpAny _ _ (PySem.call (Value.ref 304) _) _ _ _); k_dflt ((refine' Call.use ?k1 ?k2 ?k3 ?k4 ?k5 ?k6 (wtwo_add ?ha ?hb ?hc) ?k7 ?k8 ?_; (case k1 => k_asm); (case k2 => k_asm); (case k3 => k_asm); (case k4 => k_asm); (case ha => assumption); (case hb => assumption); (case hc => assumption); (case k5 => k_asm); (case k6 => exact rfl); (case k7 => ktr_room); (case k8 => ktr_units); intro r9 led9 h9 tk9 F9 N9 P9; obtain ⟨e9, e9b⟩ := P9; replace e9 := e9.symm; subst e9; (try (refine Exists.elim e9b ?_; clear e9b; intro t9 e9b)); subst e9b; (try dsimp only); (try k_fold)))) | ((with_reducible show wpAny _ _ (PySem.call (Value.ref 318) _) _ _ _); k_dflt ((refine' Call.use ?k1 ?k2 ?k3 ?k4 ?k5 ?k6 (leaf_is ?hq ?hm) ?k7 ?k8 ?_; (case k1 => k_asm); (case k2 => k_asm); (case k3 => k_asm); (case k4 => k_asm); (case hq => first | assumption | omega); (case hm => k_mem); (case k5 => k_asm); (case k6 => exact rfl); (case k7 => ktr_room); (case k8 => ktr_units); intro r9 led9 h9 tk9 F9 N9 P9; obtain ⟨e9, e9b⟩ := P9; replace e9 := e9.symm; subst e9; (try (refine Exists.elim e9b ?_; clear e9b; intro t9 e9b)); subst e9b; (try dsimp only); (try k_fold)))) | ((with_reducible show wpAny _ _ (PySem.call (Value.ref 79) _) _ _ _); k_dflt ((refine' Call.use ?k1 ?k2 ?k3 ?k4 ?k5 ?k6 (fits_is ?hq) ?k7 ?k8 ?_; (case k1 => k_asm); (case k2 => k_asm); (case k3 => k_asm); (case k4 => k_asm); (case hq => first | assumption | omega); (case k5 => k_asm); (case k6 => exact rfl); (case k7 => ktr_room); (case k8 => ktr_units); intro r9 led9 h9 tk9 F9 N9 P9; obtain ⟨e9, e9b⟩ := P9; replace e9 := e9.symm; subst e9; (try (refine Exists.elim e9b ?_; clear e9b; intro t9 e9b)); subst e9b; (try dsimp only); (try k_fold)))) | walk1) | (leave1; walk_say "STEP leave1"; (try dsimp only)) | fail "no step")
  (rename Fr _ _ _ _ => F7)
  (rename News _ _ _ _ => N7)
  exact hret _ _ _ _ F7 N7 ⟨rfl, _, rfl⟩
theorem wtree_add {w : World} {mean : ExcName → Option Value} {mg mb : Str → Option Value} {news : List (Addr × Obj)} {a pl : Addr} {t1 t2 t3 t4 : Tok} {n k : Nat} {u v : Value} {x y : Int} (hx : -2000000000 ≤ x ∧ x ≤ 2000000000) (hy : -2000000000 ≤ y ∧ y ≤ 2000000000) (hn : -2147483648 ≤ x + y ∧ x + y < 2147483648) (hm : (a, tup [.str (Str.ofString "two") t1, .str (Str.ofString "+") t2, u, v] n) ∈ news) (hp : (pl, listOf #[.int x t3, .int y t4] k) ∈ news) {h dx dd ak : Addr} {q1 q2 q3 q4 q5 q6 : Tok} (hk1 : (h, instObj 382 dx) ∈ news) (hk2 : (dx, dictOf [⟨PyData.keyHash w.params (Str.ofString "values"), .str (Str.ofString "values") q1, .ref dd⟩, ⟨PyData.keyHash w.params (Str.ofString "bits"), .str (Str.ofString "bits") q2, .int 32 q3⟩, ⟨PyData.keyHash w.params (Str.ofString "digits"), .str (Str.ofString "digits") q4, .int 9 q5⟩, ⟨PyData.keyHash w.params (Str.ofString "asked"), .str (Str.ofString "asked") q6, .ref ak⟩] 4) ∈ news) :
    Call w mean mg mb 325 [.ref a, .ref pl, .ref h] 12 news fun led r => led = news ∧ ∃ t, r = .int (x + y) t := by
  unfold Call
  k_fill
  intro dp un gd cn cs a₁ ccd cl outer A₀ base h₀ L m s Q E B F X N TT hk hd₁ hu hret
  refine wpAny_call ?_
  k_dflt ktr_enter
  k_with_none
  repeat' (first | (k_unfold; (try dsimp only)) | (k_end; kc_close) | ((with_reducible show wpAny _ _ (PySem.call (Value.ref 304) _) _ _ _); k_dflt ((refine' Call.use ?k1 ?k2 ?k3 ?k4 ?k5 ?k6 (wtwo_mul ?ha ?hb ?hc) ?k7 ?k8 ?_; (case k1 => k_asm); (case k2 => k_asm); (case k3 => k_asm); (case k4 => k_asm); (case ha => assumption); (case hb => assumption); (case hc => assumption); (case k5 => k_asm); (case k6 => exact rfl); (case k7 => ktr_room); (case k8 => ktr_units); intro r9 led9 h9 tk9 F9 N9 P9; obtain ⟨e9, e9b⟩ := P9; replace e9 := e9.symm; subst e9; (try (refine Exists.elim e9b ?_; clear e9b; intro t9 e9b)); subst e9b; (try dsimp only); (try k_fold)))) | ((with_reducible show wpAny _ _ (PySem.call (Value.ref 304) _) _ _ _); k_dflt ((refine' Call.use ?k1 ?k2 ?k3 ?k4 ?k5 ?k6 (wtwo_sub ?ha ?hb ?hc) ?k7 ?k8 ?_; (case k1 => k_asm); (case k2 => k_asm); (case k3 => k_asm); (case k4 => k_asm); (case ha => assumption); (case hb => assumption); (case hc => assumption); (case k5 => k_asm); (case k6 => exact rfl); (case k7 => ktr_room); (case k8 => ktr_units); intro r9 led9 h9 tk9 F9 N9 P9; obtain ⟨e9, e9b⟩ := P9; replace e9 := e9.symm; subst e9; (try (refine Exists.elim e9b ?_; clear e9b; intro t9 e9b)); subst e9b; (try dsimp only); (try k_fold)))) | ((with_reducible show wpAny _ _ (PySem.call (Value.ref 304) _) _ _ _); k_dflt ((refine' Call.use ?k1 ?k2 ?k3 ?k4 ?k5 ?k6 (wtwo_add ?ha ?hb ?hc) ?k7 ?k8 ?_; (case k1 => k_asm); (case k2 => k_asm); (case k3 => k_asm); (case k4 => k_asm); (case ha => assumption); (case hb => assumption); (case hc => assumption); (case k5 => k_asm); (case k6 => exact rfl); (case k7 => ktr_room); (case k8 => ktr_units); intro r9 led9 h9 tk9 F9 N9 P9; obtain ⟨e9, e9b⟩ := P9; replace e9 := e9.symm; subst e9; (try (refine Exists.elim e9b ?_; clear e9b; intro t9 e9b)); subst e9b; (try dsimp only); (try k_fold)))) | ((with_reducible show wpAny _ _ (PySem.call (Value.ref 318) _) _ _ _); k_dflt ((refine' Call.use ?k1 ?k2 ?k3 ?k4 ?k5 ?k6 (leaf_is ?hq ?hm) ?k7 ?k8 ?_; (case k1 => k_asm); (case k2 => k_asm); (case k3 => k_asm); (case k4 => k_asm); (case hq => first | assumption | omega); (case hm => k_mem); (case k5 => k_asm); (case k6 => exact rfl); (case k7 => ktr_room); (case k8 => ktr_units); intro r9 led9 h9 tk9 F9 N9 P9; obtain ⟨e9, e9b⟩ := P9; replace e9 := e9.symm; subst e9; (try (refine Exists.elim e9b ?_; clear e9b; intro t9 e9b)); subst e9b; (try dsimp only); (try k_fold)))) | ((with_reducible show wpAny _ _ (PySem.call (Value.ref 79) _) _ _ _); k_dflt ((refine' Call.use ?k1 ?k2 ?k3 ?k4 ?k5 ?k6 (fits_is ?hq) ?k7 ?k8 ?_; (case k1 => k_asm); (case k2 => k_asm); (case k3 => k_asm); (case k4 => k_asm); (case hq => first | assumption | omega); (case k5 => k_asm); (case k6 => exact rfl); (case k7 => ktr_room); (case k8 => ktr_units); intro r9 led9 h9 tk9 F9 N9 P9; obtain ⟨e9, e9b⟩ := P9; replace e9 := e9.symm; subst e9; (try (refine Exists.elim e9b ?_; clear e9b; intro t9 e9b)); subst e9b; (try dsimp only); (try k_fold)))) | walk1 | (dsimp only; first | ((with_reducible show wpAny _ _ (PySem.call (Value.ref 304) _) _ _ _); k_dflt ((refine' Call.use ?k1 ?k2 ?k3 ?k4 ?k5 ?k6 (wtwo_mul ?ha ?hb ?hc) ?k7 ?k8 ?_; (case k1 => k_asm); (case k2 => k_asm); (case k3 => k_asm); (case k4 => k_asm); (case ha => assumption); (case hb => assumption); (case hc => assumption); (case k5 => k_asm); (case k6 => exact rfl); (case k7 => ktr_room); (case k8 => ktr_units); intro r9 led9 h9 tk9 F9 N9 P9; obtain ⟨e9, e9b⟩ := P9; replace e9 := e9.symm; subst e9; (try (refine Exists.elim e9b ?_; clear e9b; intro t9 e9b)); subst e9b; (try dsimp only); (try k_fold)))) | ((with_reducible show wpAny _ _ (PySem.call (Value.ref 304) _) _ _ _); k_dflt ((refine' Call.use ?k1 ?k2 ?k3 ?k4 ?k5 ?k6 (wtwo_sub ?ha ?hb ?hc) ?k7 ?k8 ?_; (case k1 => k_asm); (case k2 => k_asm); (case k3 => k_asm); (case k4 => k_asm); (case ha => assumption); (case hb => assumption); (case hc => assumption); (case k5 => k_asm); (case k6 => exact rfl); (case k7 => ktr_room); (case k8 => ktr_units); intro r9 led9 h9 tk9 F9 N9 P9; obtain ⟨e9, e9b⟩ := P9; replace e9 := e9.symm; subst e9; (try (refine Exists.elim e9b ?_; clear e9b; intro t9 e9b)); subst e9b; (try dsimp only); (try k_fold)))) | ((with_reducible show wpAny _ _ (PySem.call (Value.ref 304) _) _ _ _); k_dflt ((refine' Call.use ?k1 ?k2 ?k3 ?k4 ?k5 ?k6 (wtwo_add ?ha ?hb ?hc) ?k7 ?k8 ?_; (case k1 => k_asm); (case k2 => k_asm); (case k3 => k_asm); (case k4 => k_asm); (case ha => assumption); (case hb => assumption); (case hc => assumption); (case k5 => k_asm); (case k6 => exact rfl); (case k7 => ktr_room); (case k8 => ktr_units); intro r9 led9 h9 tk9 F9 N9 P9; obtain ⟨e9, e9b⟩ := P9; replace e9 := e9.symm; subst e9; (try (refine Exists.elim e9b ?_; clear e9b; intro t9 e9b)); subst e9b; (try dsimp only); (try k_fold)))) | ((with_reducible show wpAny _ _ (PySem.call (Value.ref 318) _) _ _ _); k_dflt ((refine' Call.use ?k1 ?k2 ?k3 ?k4 ?k5 ?k6 (leaf_is ?hq ?hm) ?k7 ?k8 ?_; (case k1 => k_asm); (case k2 => k_asm); (case k3 => k_asm); (case k4 => k_asm); (case hq => first | assumption | omega); (case hm => k_mem); (case k5 => k_asm); (case k6 => exact rfl); (case k7 => ktr_room); (case k8 => ktr_units); intro r9 led9 h9 tk9 F9 N9 P9; obtain ⟨e9, e9b⟩ := P9; replace e9 := e9.symm; subst e9; (try (refine Exists.elim e9b ?_; clear e9b; intro t9 e9b)); subst e9b; (try dsimp only); (try k_fold)))) | ((with_reducible show wpAny _ _ (PySem.call (Value.ref 79) _) _ _ _); k_dflt ((refine' Call.use ?k1 ?k2 ?k3 ?k4 ?k5 ?k6 (fits_is ?hq) ?k7 ?k8 ?_; (case k1 => k_asm); (case k2 => k_asm); (case k3 => k_asm); (case k4 => k_asm); (case hq => first | assumption | omega); (case k5 => k_asm); (case k6 => exact rfl); (case k7 => ktr_room); (case k8 => ktr_units); intro r9 led9 h9 tk9 F9 N9 P9; obtain ⟨e9, e9b⟩ := P9; replace e9 := e9.symm; subst e9; (try (refine Exists.elim e9b ?_; clear e9b; intro t9 e9b)); subst e9b; (try dsimp only); (try k_fold)))) | walk1) | (leave1; walk_say "STEP leave1"; (try dsimp only)) | fail "no step")
  (rename Fr _ _ _ _ => F7)
  (rename News _ _ _ _ => N7)
  exact hret _ _ _ _ F7 (fun p hp => N7 p (by first | assumption | (revert p; tb_start))) ⟨rfl, _, rfl⟩
theorem wtree_sub {w : World} {mean : ExcName → Option Value} {mg mb : Str → Option Value} {news : List (Addr × Obj)} {a pl : Addr} {t1 t2 t3 t4 : Tok} {n k : Nat} {u v : Value} {x y : Int} (hx : -2000000000 ≤ x ∧ x ≤ 2000000000) (hy : -2000000000 ≤ y ∧ y ≤ 2000000000) (hn : -2147483648 ≤ x - y ∧ x - y < 2147483648) (hm : (a, tup [.str (Str.ofString "two") t1, .str (Str.ofString "-") t2, u, v] n) ∈ news) (hp : (pl, listOf #[.int x t3, .int y t4] k) ∈ news) {h dx dd ak : Addr} {q1 q2 q3 q4 q5 q6 : Tok} (hk1 : (h, instObj 382 dx) ∈ news) (hk2 : (dx, dictOf [⟨PyData.keyHash w.params (Str.ofString "values"), .str (Str.ofString "values") q1, .ref dd⟩, ⟨PyData.keyHash w.params (Str.ofString "bits"), .str (Str.ofString "bits") q2, .int 32 q3⟩, ⟨PyData.keyHash w.params (Str.ofString "digits"), .str (Str.ofString "digits") q4, .int 9 q5⟩, ⟨PyData.keyHash w.params (Str.ofString "asked"), .str (Str.ofString "asked") q6, .ref ak⟩] 4) ∈ news) :
    Call w mean mg mb 325 [.ref a, .ref pl, .ref h] 12 news fun led r => led = news ∧ ∃ t, r = .int (x - y) t := by
  unfold Call
  k_fill
  intro dp un gd cn cs a₁ ccd cl outer A₀ base h₀ L m s Q E B F X N TT hk hd₁ hu hret
  refine wpAny_call ?_
  k_dflt ktr_enter
  k_with_none
  repeat' (first | (k_unfold; (try dsimp only)) | (k_end; kc_close) | ((with_reducible show wpAny _ _ (PySem.call (Value.ref 304) _) _ _ _); k_dflt ((refine' Call.use ?k1 ?k2 ?k3 ?k4 ?k5 ?k6 (wtwo_mul ?ha ?hb ?hc) ?k7 ?k8 ?_; (case k1 => k_asm); (case k2 => k_asm); (case k3 => k_asm); (case k4 => k_asm); (case ha => assumption); (case hb => assumption); (case hc => assumption); (case k5 => k_asm); (case k6 => exact rfl); (case k7 => ktr_room); (case k8 => ktr_units); intro r9 led9 h9 tk9 F9 N9 P9; obtain ⟨e9, e9b⟩ := P9; replace e9 := e9.symm; subst e9; (try (refine Exists.elim e9b ?_; clear e9b; intro t9 e9b)); subst e9b; (try dsimp only); (try k_fold)))) | ((with_reducible show wpAny _ _ (PySem.call (Value.ref 304) _) _ _ _); k_dflt ((refine' Call.use ?k1 ?k2 ?k3 ?k4 ?k5 ?k6 (wtwo_sub ?ha ?hb ?hc) ?k7 ?k8 ?_; (case k1 => k_asm); (case k2 => k_asm); (case k3 => k_asm); (case k4 => k_asm); (case ha => assumption); (case hb => assumption); (case hc => assumption); (case k5 => k_asm); (case k6 => exact rfl); (case k7 => ktr_room); (case k8 => ktr_units); intro r9 led9 h9 tk9 F9 N9 P9; obtain ⟨e9, e9b⟩ := P9; replace e9 := e9.symm; subst e9; (try (refine Exists.elim e9b ?_; clear e9b; intro t9 e9b)); subst e9b; (try dsimp only); (try k_fold)))) | ((with_reducible show wpAny _ _ (PySem.call (Value.ref 304) _) _ _ _); k_dflt ((refine' Call.use ?k1 ?k2 ?k3 ?k4 ?k5 ?k6 (wtwo_add ?ha ?hb ?hc) ?k7 ?k8 ?_; (case k1 => k_asm); (case k2 => k_asm); (case k3 => k_asm); (case k4 => k_asm); (case ha => assumption); (case hb => assumption); (case hc => assumption); (case k5 => k_asm); (case k6 => exact rfl); (case k7 => ktr_room); (case k8 => ktr_units); intro r9 led9 h9 tk9 F9 N9 P9; obtain ⟨e9, e9b⟩ := P9; replace e9 := e9.symm; subst e9; (try (refine Exists.elim e9b ?_; clear e9b; intro t9 e9b)); subst e9b; (try dsimp only); (try k_fold)))) | ((with_reducible show wpAny _ _ (PySem.call (Value.ref 318) _) _ _ _); k_dflt ((refine' Call.use ?k1 ?k2 ?k3 ?k4 ?k5 ?k6 (leaf_is ?hq ?hm) ?k7 ?k8 ?_; (case k1 => k_asm); (case k2 => k_asm); (case k3 => k_asm); (case k4 => k_asm); (case hq => first | assumption | omega); (case hm => k_mem); (case k5 => k_asm); (case k6 => exact rfl); (case k7 => ktr_room); (case k8 => ktr_units); intro r9 led9 h9 tk9 F9 N9 P9; obtain ⟨e9, e9b⟩ := P9; replace e9 := e9.symm; subst e9; (try (refine Exists.elim e9b ?_; clear e9b; intro t9 e9b)); subst e9b; (try dsimp only); (try k_fold)))) | ((with_reducible show wpAny _ _ (PySem.call (Value.ref 79) _) _ _ _); k_dflt ((refine' Call.use ?k1 ?k2 ?k3 ?k4 ?k5 ?k6 (fits_is ?hq) ?k7 ?k8 ?_; (case k1 => k_asm); (case k2 => k_asm); (case k3 => k_asm); (case k4 => k_asm); (case hq => first | assumption | omega); (case k5 => k_asm); (case k6 => exact rfl); (case k7 => ktr_room); (case k8 => ktr_units); intro r9 led9 h9 tk9 F9 N9 P9; obtain ⟨e9, e9b⟩ := P9; replace e9 := e9.symm; subst e9; (try (refine Exists.elim e9b ?_; clear e9b; intro t9 e9b)); subst e9b; (try dsimp only); (try k_fold)))) | walk1 | (dsimp only; first | ((with_reducible show wpAny _ _ (PySem.call (Value.ref 304) _) _ _ _); k_dflt ((refine' Call.use ?k1 ?k2 ?k3 ?k4 ?k5 ?k6 (wtwo_mul ?ha ?hb ?hc) ?k7 ?k8 ?_; (case k1 => k_asm); (case k2 => k_asm); (case k3 => k_asm); (case k4 => k_asm); (case ha => assumption); (case hb => assumption); (case hc => assumption); (case k5 => k_asm); (case k6 => exact rfl); (case k7 => ktr_room); (case k8 => ktr_units); intro r9 led9 h9 tk9 F9 N9 P9; obtain ⟨e9, e9b⟩ := P9; replace e9 := e9.symm; subst e9; (try (refine Exists.elim e9b ?_; clear e9b; intro t9 e9b)); subst e9b; (try dsimp only); (try k_fold)))) | ((with_reducible show wpAny _ _ (PySem.call (Value.ref 304) _) _ _ _); k_dflt ((refine' Call.use ?k1 ?k2 ?k3 ?k4 ?k5 ?k6 (wtwo_sub ?ha ?hb ?hc) ?k7 ?k8 ?_; (case k1 => k_asm); (case k2 => k_asm); (case k3 => k_asm); (case k4 => k_asm); (case ha => assumption); (case hb => assumption); (case hc => assumption); (case k5 => k_asm); (case k6 => exact rfl); (case k7 => ktr_room); (case k8 => ktr_units); intro r9 led9 h9 tk9 F9 N9 P9; obtain ⟨e9, e9b⟩ := P9; replace e9 := e9.symm; subst e9; (try (refine Exists.elim e9b ?_; clear e9b; intro t9 e9b)); subst e9b; (try dsimp only); (try k_fold)))) | ((with_reducible show wpAny _ _ (PySem.call (Value.ref 304) _) _ _ _); k_dflt ((refine' Call.use ?k1 ?k2 ?k3 ?k4 ?k5 ?k6 (wtwo_add ?ha ?hb ?hc) ?k7 ?k8 ?_; (case k1 => k_asm); (case k2 => k_asm); (case k3 => k_asm); (case k4 => k_asm); (case ha => assumption); (case hb => assumption); (case hc => assumption); (case k5 => k_asm); (case k6 => exact rfl); (case k7 => ktr_room); (case k8 => ktr_units); intro r9 led9 h9 tk9 F9 N9 P9; obtain ⟨e9, e9b⟩ := P9; replace e9 := e9.symm; subst e9; (try (refine Exists.elim e9b ?_; clear e9b; intro t9 e9b)); subst e9b; (try dsimp only); (try k_fold)))) | ((with_reducible show wpAny _ _ (PySem.call (Value.ref 318) _) _ _ _); k_dflt ((refine' Call.use ?k1 ?k2 ?k3 ?k4 ?k5 ?k6 (leaf_is ?hq ?hm) ?k7 ?k8 ?_; (case k1 => k_asm); (case k2 => k_asm); (case k3 => k_asm); (case k4 => k_asm); (case hq => first | assumption | omega); (case hm => k_mem); (case k5 => k_asm); (case k6 => exact rfl); (case k7 => ktr_room); (case k8 => ktr_units); intro r9 led9 h9 tk9 F9 N9 P9; obtain ⟨e9, e9b⟩ := P9; replace e9 := e9.symm; subst e9; (try (refine Exists.elim e9b ?_; clear e9b; intro t9 e9b)); subst e9b; (try dsimp only); (try k_fold)))) | ((with_reducible show wpAny _ _ (PySem.call (Value.ref 79) _) _ _ _); k_dflt ((refine' Call.use ?k1 ?k2 ?k3 ?k4 ?k5 ?k6 (fits_is ?hq) ?k7 ?k8 ?_; (case k1 => k_asm); (case k2 => k_asm); (case k3 => k_asm); (case k4 => k_asm); (case hq => first | assumption | omega); (case k5 => k_asm); (case k6 => exact rfl); (case k7 => ktr_room); (case k8 => ktr_units); intro r9 led9 h9 tk9 F9 N9 P9; obtain ⟨e9, e9b⟩ := P9; replace e9 := e9.symm; subst e9; (try (refine Exists.elim e9b ?_; clear e9b; intro t9 e9b)); subst e9b; (try dsimp only); (try k_fold)))) | walk1) | (leave1; walk_say "STEP leave1"; (try dsimp only)) | fail "no step")
  (rename Fr _ _ _ _ => F7)
  (rename News _ _ _ _ => N7)
  exact hret _ _ _ _ F7 (fun p hp => N7 p (by first | assumption | (revert p; tb_start))) ⟨rfl, _, rfl⟩
theorem wtree_mul {w : World} {mean : ExcName → Option Value} {mg mb : Str → Option Value} {news : List (Addr × Obj)} {a pl : Addr} {t1 t2 t3 t4 : Tok} {n k : Nat} {u v : Value} {x y : Int} (hx : -2000000000 ≤ x ∧ x ≤ 2000000000) (hy : -2000000000 ≤ y ∧ y ≤ 2000000000) (hn : -2147483648 ≤ x * y ∧ x * y < 2147483648) (hm : (a, tup [.str (Str.ofString "two") t1, .str (Str.ofString "*") t2, u, v] n) ∈ news) (hp : (pl, listOf #[.int x t3, .int y t4] k) ∈ news) {h dx dd ak : Addr} {q1 q2 q3 q4 q5 q6 : Tok} (hk1 : (h, instObj 382 dx) ∈ news) (hk2 : (dx, dictOf [⟨PyData.keyHash w.params (Str.ofString "values"), .str (Str.ofString "values") q1, .ref dd⟩, ⟨PyData.keyHash w.params (Str.ofString "bits"), .str (Str.ofString "bits") q2, .int 32 q3⟩, ⟨PyData.keyHash w.params (Str.ofString "digits"), .str (Str.ofString "digits") q4, .int 9 q5⟩, ⟨PyData.keyHash w.params (Str.ofString "asked"), .str (Str.ofString "asked") q6, .ref ak⟩] 4) ∈ news) :
    Call w mean mg mb 325 [.ref a, .ref pl, .ref h] 12 news fun led r => led = news ∧ ∃ t, r = .int (x * y) t := by
  unfold Call
  k_fill
  intro dp un gd cn cs a₁ ccd cl outer A₀ base h₀ L m s Q E B F X N TT hk hd₁ hu hret
  refine wpAny_call ?_
  k_dflt ktr_enter
  k_with_none
  repeat' (first | (k_unfold; (try dsimp only)) | (k_end; kc_close) | ((with_reducible show wpAny _ _ (PySem.call (Value.ref 304) _) _ _ _); k_dflt ((refine' Call.use ?k1 ?k2 ?k3 ?k4 ?k5 ?k6 (wtwo_mul ?ha ?hb ?hc) ?k7 ?k8 ?_; (case k1 => k_asm); (case k2 => k_asm); (case k3 => k_asm); (case k4 => k_asm); (case ha => assumption); (case hb => assumption); (case hc => assumption); (case k5 => k_asm); (case k6 => exact rfl); (case k7 => ktr_room); (case k8 => ktr_units); intro r9 led9 h9 tk9 F9 N9 P9; obtain ⟨e9, e9b⟩ := P9; replace e9 := e9.symm; subst e9; (try (refine Exists.elim e9b ?_; clear e9b; intro t9 e9b)); subst e9b; (try dsimp only); (try k_fold)))) | ((with_reducible show wpAny _ _ (PySem.call (Value.ref 304) _) _ _ _); k_dflt ((refine' Call.use ?k1 ?k2 ?k3 ?k4 ?k5 ?k6 (wtwo_sub ?ha ?hb ?hc) ?k7 ?k8 ?_; (case k1 => k_asm); (case k2 => k_asm); (case k3 => k_asm); (case k4 => k_asm); (case ha => assumption); (case hb => assumption); (case hc => assumption); (case k5 => k_asm); (case k6 => exact rfl); (case k7 => ktr_room); (case k8 => ktr_units); intro r9 led9 h9 tk9 F9 N9 P9; obtain ⟨e9, e9b⟩ := P9; replace e9 := e9.symm; subst e9; (try (refine Exists.elim e9b ?_; clear e9b; intro t9 e9b)); subst e9b; (try dsimp only); (try k_fold)))) | ((with_reducible show wpAny _ _ (PySem.call (Value.ref 304) _) _ _ _); k_dflt ((refine' Call.use ?k1 ?k2 ?k3 ?k4 ?k5 ?k6 (wtwo_add ?ha ?hb ?hc) ?k7 ?k8 ?_; (case k1 => k_asm); (case k2 => k_asm); (case k3 => k_asm); (case k4 => k_asm); (case ha => assumption); (case hb => assumption); (case hc => assumption); (case k5 => k_asm); (case k6 => exact rfl); (case k7 => ktr_room); (case k8 => ktr_units); intro r9 led9 h9 tk9 F9 N9 P9; obtain ⟨e9, e9b⟩ := P9; replace e9 := e9.symm; subst e9; (try (refine Exists.elim e9b ?_; clear e9b; intro t9 e9b)); subst e9b; (try dsimp only); (try k_fold)))) | ((with_reducible show wpAny _ _ (PySem.call (Value.ref 318) _) _ _ _); k_dflt ((refine' Call.use ?k1 ?k2 ?k3 ?k4 ?k5 ?k6 (leaf_is ?hq ?hm) ?k7 ?k8 ?_; (case k1 => k_asm); (case k2 => k_asm); (case k3 => k_asm); (case k4 => k_asm); (case hq => first | assumption | omega); (case hm => k_mem); (case k5 => k_asm); (case k6 => exact rfl); (case k7 => ktr_room); (case k8 => ktr_units); intro r9 led9 h9 tk9 F9 N9 P9; obtain ⟨e9, e9b⟩ := P9; replace e9 := e9.symm; subst e9; (try (refine Exists.elim e9b ?_; clear e9b; intro t9 e9b)); subst e9b; (try dsimp only); (try k_fold)))) | ((with_reducible show wpAny _ _ (PySem.call (Value.ref 79) _) _ _ _); k_dflt ((refine' Call.use ?k1 ?k2 ?k3 ?k4 ?k5 ?k6 (fits_is ?hq) ?k7 ?k8 ?_; (case k1 => k_asm); (case k2 => k_asm); (case k3 => k_asm); (case k4 => k_asm); (case hq => first | assumption | omega); (case k5 => k_asm); (case k6 => exact rfl); (case k7 => ktr_room); (case k8 => ktr_units); intro r9 led9 h9 tk9 F9 N9 P9; obtain ⟨e9, e9b⟩ := P9; replace e9 := e9.symm; subst e9; (try (refine Exists.elim e9b ?_; clear e9b; intro t9 e9b)); subst e9b; (try dsimp only); (try k_fold)))) | walk1 | (dsimp only; first | ((with_reducible show wpAny _ _ (PySem.call (Value.ref 304) _) _ _ _); k_dflt ((refine' Call.use ?k1 ?k2 ?k3 ?k4 ?k5 ?k6 (wtwo_mul ?ha ?hb ?hc) ?k7 ?k8 ?_; (case k1 => k_asm); (case k2 => k_asm); (case k3 => k_asm); (case k4 => k_asm); (case ha => assumption); (case hb => assumption); (case hc => assumption); (case k5 => k_asm); (case k6 => exact rfl); (case k7 => ktr_room); (case k8 => ktr_units); intro r9 led9 h9 tk9 F9 N9 P9; obtain ⟨e9, e9b⟩ := P9; replace e9 := e9.symm; subst e9; (try (refine Exists.elim e9b ?_; clear e9b; intro t9 e9b)); subst e9b; (try dsimp only); (try k_fold)))) | ((with_reducible show wpAny _ _ (PySem.call (Value.ref 304) _) _ _ _); k_dflt ((refine' Call.use ?k1 ?k2 ?k3 ?k4 ?k5 ?k6 (wtwo_sub ?ha ?hb ?hc) ?k7 ?k8 ?_; (case k1 => k_asm); (case k2 => k_asm); (case k3 => k_asm); (case k4 => k_asm); (case ha => assumption); (case hb => assumption); (case hc => assumption); (case k5 => k_asm); (case k6 => exact rfl); (case k7 => ktr_room); (case k8 => ktr_units); intro r9 led9 h9 tk9 F9 N9 P9; obtain ⟨e9, e9b⟩ := P9; replace e9 := e9.symm; subst e9; (try (refine Exists.elim e9b ?_; clear e9b; intro t9 e9b)); subst e9b; (try dsimp only); (try k_fold)))) | ((with_reducible show wpAny _ _ (PySem.call (Value.ref 304) _) _ _ _); k_dflt ((refine' Call.use ?k1 ?k2 ?k3 ?k4 ?k5 ?k6 (wtwo_add ?ha ?hb ?hc) ?k7 ?k8 ?_; (case k1 => k_asm); (case k2 => k_asm); (case k3 => k_asm); (case k4 => k_asm); (case ha => assumption); (case hb => assumption); (case hc => assumption); (case k5 => k_asm); (case k6 => exact rfl); (case k7 => ktr_room); (case k8 => ktr_units); intro r9 led9 h9 tk9 F9 N9 P9; obtain ⟨e9, e9b⟩ := P9; replace e9 := e9.symm; subst e9; (try (refine Exists.elim e9b ?_; clear e9b; intro t9 e9b)); subst e9b; (try dsimp only); (try k_fold)))) | ((with_reducible show wpAny _ _ (PySem.call (Value.ref 318) _) _ _ _); k_dflt ((refine' Call.use ?k1 ?k2 ?k3 ?k4 ?k5 ?k6 (leaf_is ?hq ?hm) ?k7 ?k8 ?_; (case k1 => k_asm); (case k2 => k_asm); (case k3 => k_asm); (case k4 => k_asm); (case hq => first | assumption | omega); (case hm => k_mem); (case k5 => k_asm); (case k6 => exact rfl); (case k7 => ktr_room); (case k8 => ktr_units); intro r9 led9 h9 tk9 F9 N9 P9; obtain ⟨e9, e9b⟩ := P9; replace e9 := e9.symm; subst e9; (try (refine Exists.elim e9b ?_; clear e9b; intro t9 e9b)); subst e9b; (try dsimp only); (try k_fold)))) | ((with_reducible show wpAny _ _ (PySem.call (Value.ref 79) _) _ _ _); k_dflt ((refine' Call.use ?k1 ?k2 ?k3 ?k4 ?k5 ?k6 (fits_is ?hq) ?k7 ?k8 ?_; (case k1 => k_asm); (case k2 => k_asm); (case k3 => k_asm); (case k4 => k_asm); (case hq => first | assumption | omega); (case k5 => k_asm); (case k6 => exact rfl); (case k7 => ktr_room); (case k8 => ktr_units); intro r9 led9 h9 tk9 F9 N9 P9; obtain ⟨e9, e9b⟩ := P9; replace e9 := e9.symm; subst e9; (try (refine Exists.elim e9b ?_; clear e9b; intro t9 e9b)); subst e9b; (try dsimp only); (try k_fold)))) | walk1) | (leave1; walk_say "STEP leave1"; (try dsimp only)) | fail "no step")
  (rename Fr _ _ _ _ => F7)
  (rename News _ _ _ _ => N7)
  exact hret _ _ _ _ F7 (fun p hp => N7 p (by first | assumption | (revert p; tb_start))) ⟨rfl, _, rfl⟩
theorem wtree_x {w : World} {mean : ExcName → Option Value} {mg mb : Str → Option Value} {rest : List (Addr × Obj)} {as : List Value} {na n : Nat} {a pl : Addr} {t1 t2 tp : Tok} {p : Int} {od : Obj} (hm : (a, tup [.str (Str.ofString "name") t1, .str (Str.ofString "X") t2] n) ∈ rest) {h dx dd ak : Addr} {q1 q2 q3 q4 q5 q6 : Tok} (hk1 : (h, instObj 382 dx) ∈ rest) (hk2 : (dx, dictOf [⟨PyData.keyHash w.params (Str.ofString "values"), .str (Str.ofString "values") q1, .ref dd⟩, ⟨PyData.keyHash w.params (Str.ofString "bits"), .str (Str.ofString "bits") q2, .int 32 q3⟩, ⟨PyData.keyHash w.params (Str.ofString "digits"), .str (Str.ofString "digits") q4, .int 9 q5⟩, ⟨PyData.keyHash w.params (Str.ofString "asked"), .str (Str.ofString "asked") q6, .ref ak⟩] 4) ∈ rest) (hd : (dd, od) ∈ rest) (hdo : od.IsDictOf (PySem.strKind prg w) [(Str.ofString "X", .int p tp)]) (hds : (dd == sysModules) = false) (hal : as.length ≤ 100000) (hoff : ∀ p ∈ rest, p.1 ≠ ak) :
    Call w mean mg mb 325 [.ref a, .ref pl, .ref h] 8 ((ak, listOf as.toArray na) :: rest) fun led r => ∃ t n', led = (ak, listOf (as ++ [Value.str (Str.ofString "X") t]).toArray n') :: rest ∧ r = .int p tp := by
  unfold Call
  k_fill
  intro dp un gd cn cs a₁ ccd cl outer A₀ base h₀ L m s Q E B F X N TT hk hd₁ hu hret
  refine wpAny_call ?_
  k_dflt ktr_enter
  k_with_none
  repeat' (first | (k_unfold; (try dsimp only)) | (k_end; kc_close) | ((with_reducible show wpAny _ _ (PySem.call (Value.ref 304) _) _ _ _); k_dflt ((refine' Call.use ?k1 ?k2 ?k3 ?k4 ?k5 ?k6 (wtwo_mul ?ha ?hb ?hc) ?k7 ?k8 ?_; (case k1 => k_asm); (case k2 => k_asm); (case k3 => k_asm); (case k4 => k_asm); (case ha => assumption); (case hb => assumption); (case hc => assumption); (case k5 => k_asm); (case k6 => exact rfl); (case k7 => ktr_room); (case k8 => ktr_units); intro r9 led9 h9 tk9 F9 N9 P9; obtain ⟨e9, e9b⟩ := P9; replace e9 := e9.symm; subst e9; (try (refine Exists.elim e9b ?_; clear e9b; intro t9 e9b)); subst e9b; (try dsimp only); (try k_fold)))) | ((with_reducible show wpAny _ _ (PySem.call (Value.ref 304) _) _ _ _); k_dflt ((refine' Call.use ?k1 ?k2 ?k3 ?k4 ?k5 ?k6 (wtwo_sub ?ha ?hb ?hc) ?k7 ?k8 ?_; (case k1 => k_asm); (case k2 => k_asm); (case k3 => k_asm); (case k4 => k_asm); (case ha => assumption); (case hb => assumption); (case hc => assumption); (case k5 => k_asm); (case k6 => exact rfl); (case k7 => ktr_room); (case k8 => ktr_units); intro r9 led9 h9 tk9 F9 N9 P9; obtain ⟨e9, e9b⟩ := P9; replace e9 := e9.symm; subst e9; (try (refine Exists.elim e9b ?_; clear e9b; intro t9 e9b)); subst e9b; (try dsimp only); (try k_fold)))) | ((with_reducible show wpAny _ _ (PySem.call (Value.ref 304) _) _ _ _); k_dflt ((refine' Call.use ?k1 ?k2 ?k3 ?k4 ?k5 ?k6 (wtwo_add ?ha ?hb ?hc) ?k7 ?k8 ?_; (case k1 => k_asm); (case k2 => k_asm); (case k3 => k_asm); (case k4 => k_asm); (case ha => assumption); (case hb => assumption); (case hc => assumption); (case k5 => k_asm); (case k6 => exact rfl); (case k7 => ktr_room); (case k8 => ktr_units); intro r9 led9 h9 tk9 F9 N9 P9; obtain ⟨e9, e9b⟩ := P9; replace e9 := e9.symm; subst e9; (try (refine Exists.elim e9b ?_; clear e9b; intro t9 e9b)); subst e9b; (try dsimp only); (try k_fold)))) | ((with_reducible show wpAny _ _ (PySem.call (Value.ref 318) _) _ _ _); k_dflt ((refine' Call.use ?k1 ?k2 ?k3 ?k4 ?k5 ?k6 (leaf_is ?hq ?hm) ?k7 ?k8 ?_; (case k1 => k_asm); (case k2 => k_asm); (case k3 => k_asm); (case k4 => k_asm); (case hq => first | assumption | omega); (case hm => k_mem); (case k5 => k_asm); (case k6 => exact rfl); (case k7 => ktr_room); (case k8 => ktr_units); intro r9 led9 h9 tk9 F9 N9 P9; obtain ⟨e9, e9b⟩ := P9; replace e9 := e9.symm; subst e9; (try (refine Exists.elim e9b ?_; clear e9b; intro t9 e9b)); subst e9b; (try dsimp only); (try k_fold)))) | ((with_reducible show wpAny _ _ (PySem.call (Value.ref 79) _) _ _ _); k_dflt ((refine' Call.use ?k1 ?k2 ?k3 ?k4 ?k5 ?k6 (fits_is ?hq) ?k7 ?k8 ?_; (case k1 => k_asm); (case k2 => k_asm); (case k3 => k_asm); (case k4 => k_asm); (case hq => first | assumption | omega); (case k5 => k_asm); (case k6 => exact rfl); (case k7 => ktr_room); (case k8 => ktr_units); intro r9 led9 h9 tk9 F9 N9 P9; obtain ⟨e9, e9b⟩ := P9; replace e9 := e9.symm; subst e9; (try (refine Exists.elim e9b ?_; clear e9b; intro t9 e9b)); subst e9b; (try dsimp only); (try k_fold)))) | walk1 | (dsimp only; first | ((with_reducible show wpAny _ _ (PySem.call (Value.ref 304) _) _ _ _); k_dflt ((refine' Call.use ?k1 ?k2 ?k3 ?k4 ?k5 ?k6 (wtwo_mul ?ha ?hb ?hc) ?k7 ?k8 ?_; (case k1 => k_asm); (case k2 => k_asm); (case k3 => k_asm); (case k4 => k_asm); (case ha => assumption); (case hb => assumption); (case hc => assumption); (case k5 => k_asm); (case k6 => exact rfl); (case k7 => ktr_room); (case k8 => ktr_units); intro r9 led9 h9 tk9 F9 N9 P9; obtain ⟨e9, e9b⟩ := P9; replace e9 := e9.symm; subst e9; (try (refine Exists.elim e9b ?_; clear e9b; intro t9 e9b)); subst e9b; (try dsimp only); (try k_fold)))) | ((with_reducible show wpAny _ _ (PySem.call (Value.ref 304) _) _ _ _); k_dflt ((refine' Call.use ?k1 ?k2 ?k3 ?k4 ?k5 ?k6 (wtwo_sub ?ha ?hb ?hc) ?k7 ?k8 ?_; (case k1 => k_asm); (case k2 => k_asm); (case k3 => k_asm); (case k4 => k_asm); (case ha => assumption); (case hb => assumption); (case hc => assumption); (case k5 => k_asm); (case k6 => exact rfl); (case k7 => ktr_room); (case k8 => ktr_units); intro r9 led9 h9 tk9 F9 N9 P9; obtain ⟨e9, e9b⟩ := P9; replace e9 := e9.symm; subst e9; (try (refine Exists.elim e9b ?_; clear e9b; intro t9 e9b)); subst e9b; (try dsimp only); (try k_fold)))) | ((with_reducible show wpAny _ _ (PySem.call (Value.ref 304) _) _ _ _); k_dflt ((refine' Call.use ?k1 ?k2 ?k3 ?k4 ?k5 ?k6 (wtwo_add ?ha ?hb ?hc) ?k7 ?k8 ?_; (case k1 => k_asm); (case k2 => k_asm); (case k3 => k_asm); (case k4 => k_asm); (case ha => assumption); (case hb => assumption); (case hc => assumption); (case k5 => k_asm); (case k6 => exact rfl); (case k7 => ktr_room); (case k8 => ktr_units); intro r9 led9 h9 tk9 F9 N9 P9; obtain ⟨e9, e9b⟩ := P9; replace e9 := e9.symm; subst e9; (try (refine Exists.elim e9b ?_; clear e9b; intro t9 e9b)); subst e9b; (try dsimp only); (try k_fold)))) | ((with_reducible show wpAny _ _ (PySem.call (Value.ref 318) _) _ _ _); k_dflt ((refine' Call.use ?k1 ?k2 ?k3 ?k4 ?k5 ?k6 (leaf_is ?hq ?hm) ?k7 ?k8 ?_; (case k1 => k_asm); (case k2 => k_asm); (case k3 => k_asm); (case k4 => k_asm); (case hq => first | assumption | omega); (case hm => k_mem); (case k5 => k_asm); (case k6 => exact rfl); (case k7 => ktr_room); (case k8 => ktr_units); intro r9 led9 h9 tk9 F9 N9 P9; obtain ⟨e9, e9b⟩ := P9; replace e9 := e9.symm; subst e9; (try (refine Exists.elim e9b ?_; clear e9b; intro t9 e9b)); subst e9b; (try dsimp only); (try k_fold)))) | ((with_reducible show wpAny _ _ (PySem.call (Value.ref 79) _) _ _ _); k_dflt ((refine' Call.use ?k1 ?k2 ?k3 ?k4 ?k5 ?k6 (fits_is ?hq) ?k7 ?k8 ?_; (case k1 => k_asm); (case k2 => k_asm); (case k3 => k_asm); (case k4 => k_asm); (case hq => first | assumption | omega); (case k5 => k_asm); (case k6 => exact rfl); (case k7 => ktr_room); (case k8 => ktr_units); intro r9 led9 h9 tk9 F9 N9 P9; obtain ⟨e9, e9b⟩ := P9; replace e9 := e9.symm; subst e9; (try (refine Exists.elim e9b ?_; clear e9b; intro t9 e9b)); subst e9b; (try dsimp only); (try k_fold)))) | walk1) | (leave1; walk_say "STEP leave1"; (try dsimp only)) | fail "no step")
  (rename Fr _ _ _ _ => F7)
  (rename News _ _ _ _ => N7)
  exact hret _ _ _ _ F7 N7 ⟨_, _, rfl, rfl⟩
end PartW2
section PartW4
open PyProof.V PySem.Spec

def Tr.eval (p : Int) : Tr → Int
  | .x => p
  | .num k => k
  | .add a b => a.eval p + b.eval p
  | .sub a b => a.eval p - b.eval p
  | .mul a b => a.eval p * b.eval p
def small (n : Int) : Prop := -2000000000 ≤ n ∧ n ≤ 2000000000
def Tr.fit (p : Int) : Tr → Prop
  | .x => small p
  | .num k => small k
  | .add a b => a.fit p ∧ b.fit p ∧ small (a.eval p + b.eval p)
  | .sub a b => a.fit p ∧ b.fit p ∧ small (a.eval p - b.eval p)
  | .mul a b => a.fit p ∧ b.fit p ∧ small (a.eval p * b.eval p)
theorem Tr.fit.small {p : Int} : ∀ {T : Tr}, T.fit p → Mine.small (T.eval p)
  | .x, h => h
  | .num _, h => h
  | .add _ _, h => h.2.2
  | .sub _ _, h => h.2.2
  | .mul _ _, h => h.2.2
def Tr.w : Tr → Nat
  | .x => 1
  | .num _ => 1
  | .add a b => a.w + b.w + 2
  | .sub a b => a.w + b.w + 2
  | .mul a b => a.w + b.w + 2
theorem Tr.w_pos : ∀ T : Tr, 1 ≤ T.w
  | .x => Nat.le_refl _
  | .num _ => Nat.le_refl _
  | .add a b => by simp only [Tr.w]; omega
  | .sub a b => by simp only [Tr.w]; omega
  | .mul a b => by simp only [Tr.w]; omega
/-- the sign of a node, its halves -/
inductive Two : Tr → Str → Tr → Tr → Prop where
  | add {a b : Tr} : Two (.add a b) (Str.ofString "+") a b
  | sub {a b : Tr} : Two (.sub a b) (Str.ofString "-") a b
  | mul {a b : Tr} : Two (.mul a b) (Str.ofString "*") a b
/-- what is still to be done: the top stands first -/
inductive WsIn (led : List (Addr × Obj)) : List Value → List (Tr × Bool) → Prop where
  | nil : WsIn led [] []
  | snoc {ws : List Value} {xs : List (Tr × Bool)} {t : Addr} {u : Value} {b : Bool} {k : Nat} {U : Tr} : WsIn led ws xs → (t, tup [u, .bool b] k) ∈ led → TrIn led u U → WsIn led (ws ++ [.ref t]) ((U, b) :: xs)
inductive VsAre : List Value → List Int → Prop where
  | nil : VsAre [] []
  | snoc {vs : List Value} {zs : List Int} {z : Int} {t : Tok} : VsAre vs zs → VsAre (vs ++ [.int z t]) (z :: zs)
theorem WsIn.mono {led led' : List (Addr × Obj)} {ws : List Value} {xs : List (Tr × Bool)} (h : WsIn led ws xs) (s : ∀ p ∈ led, p ∈ led') : WsIn led' ws xs := by
  induction h with
  | nil => exact .nil
  | snoc _ m r ih => exact .snoc ih (s _ m) (r.mono s)
theorem WsIn.length {led : List (Addr × Obj)} {ws : List Value} {xs : List (Tr × Bool)} (h : WsIn led ws xs) : ws.length = xs.length := by
  induction h with
  | nil => rfl
  | snoc _ _ _ ih => simp [ih]
theorem VsAre.length {vs : List Value} {zs : List Int} (h : VsAre vs zs) : vs.length = zs.length := by
  induction h with
  | nil => rfl
  | snoc _ ih => simp [ih]
def wOf : Tr × Bool → Nat
  | (U, false) => U.w
  | (_, true) => 1
def wsum : List (Tr × Bool) → Nat
  | [] => 0
  | x :: r => wOf x + wsum r
theorem wOf_pos : ∀ x : Tr × Bool, 1 ≤ wOf x
  | (U, false) => U.w_pos
  | (_, true) => Nat.le_refl _
theorem wsum_len : ∀ xs : List (Tr × Bool), xs.length ≤ wsum xs
  | [] => Nat.le_refl _
  | x :: r => by have := wsum_len r; have := wOf_pos x; simp only [wsum, List.length_cons]; omega
def Ok (p e : Int) : List (Tr × Bool) → List Int → Prop
  | [], zs => zs = [e]
  | (U, false) :: xs, zs => U.fit p ∧ Ok p e xs (U.eval p :: zs)
  | (U, true) :: xs, zs => U.fit p ∧ ∃ o A B z', Two U o A B ∧ zs = B.eval p :: A.eval p :: z' ∧ Ok p e xs (U.eval p :: z')
theorem ok_two {p e : Int} {U A B : Tr} {o : Str} {xs : List (Tr × Bool)} {zs : List Int} (t : Two U o A B) (h : Ok p e ((U, false) :: xs) zs) : Ok p e ((A, false) :: (B, false) :: (U, true) :: xs) zs := by
  have f := h.1
  refine ⟨?_, ?_, f, o, A, B, zs, t, rfl, h.2⟩
  · cases t <;> exact f.1
  · cases t <;> exact f.2.1
theorem two_w {U A B : Tr} {o : Str} (t : Two U o A B) : U.w = A.w + B.w + 2 := by cases t <;> rfl
/-- a tree of the ledger's: a leaf, or a node with its halves -/
theorem TrIn.shape {led : List (Addr × Obj)} {v : Value} {U : Tr} (h : TrIn led v U) :
    (∃ a t1 t2 n, v = .ref a ∧ U = .x ∧ (a, tup [.str (Str.ofString "name") t1, .str (Str.ofString "X") t2] n) ∈ led) ∨
    (∃ a t1 t2 n k, v = .ref a ∧ U = .num k ∧ (a, tup [.str (Str.ofString "whole") t1, .int k t2] n) ∈ led) ∨
    (∃ a t1 t2 n o u w A B, v = .ref a ∧ Two U o A B ∧ (a, tup [.str (Str.ofString "two") t1, .str o t2, u, w] n) ∈ led ∧ TrIn led u A ∧ TrIn led w B) := by
  cases h with
  | x m => exact .inl ⟨_, _, _, _, rfl, rfl, m⟩
  | num m => exact .inr (.inl ⟨_, _, _, _, _, rfl, rfl, m⟩)
  | add m i j => exact .inr (.inr ⟨_, _, _, _, _, _, _, _, _, rfl, .add, m, i, j⟩)
  | sub m i j => exact .inr (.inr ⟨_, _, _, _, _, _, _, _, _, rfl, .sub, m, i, j⟩)
  | mul m i j => exact .inr (.inr ⟨_, _, _, _, _, _, _, _, _, rfl, .mul, m, i, j⟩)
theorem fr_pin {h₀ h : Heap} {L : Addr} {y : Str} {m : Str → Option Value} {v : Value} (h1 : m y = some v) (F : Fr h₀ L h m) : Fr h₀ L h (fun z => if z = y then some v else m z) := by
  have e : (fun z => if z = y then some v else m z) = m := by
    funext z
    by_cases b : z = y
    · rw [if_pos b, b, h1]
    · rw [if_neg b]
  rw [e]; exact F
theorem fr_pin3 {h₀ h : Heap} {L : Addr} {y₁ y₂ y₃ : Str} {m : Str → Option Value} {v₁ v₂ v₃ : Value} (h1 : m y₁ = some v₁) (h2 : m y₂ = some v₂) (h3 : m y₃ = some v₃) (F : Fr h₀ L h m) :
    Fr h₀ L h (fun z => if z = y₁ then some v₁ else if z = y₂ then some v₂ else if z = y₃ then some v₃ else m z) := by
  have e : (fun z => if z = y₁ then some v₁ else if z = y₂ then some v₂ else if z = y₃ then some v₃ else m z) = m := by
    funext z
    by_cases b : z = y₁
    · rw [if_pos b, b, h1]
    · rw [if_neg b]
      by_cases c : z = y₂
      · rw [if_pos c, c, h2]
      · rw [if_neg c]
        by_cases d : z = y₃
        · rw [if_pos d, d, h3]
        · rw [if_neg d]
  rw [e]; exact F
abbrev hookD (w : World) (q1 q2 q3 q4 q5 q6 : Tok) (dd ak : Addr) : Obj := dictOf [⟨PyData.keyHash w.params (Str.ofString "values"), .str (Str.ofString "values") q1, .ref dd⟩, ⟨PyData.keyHash w.params (Str.ofString "bits"), .str (Str.ofString "bits") q2, .int 32 q3⟩, ⟨PyData.keyHash w.params (Str.ofString "digits"), .str (Str.ofString "digits") q4, .int 9 q5⟩, ⟨PyData.keyHash w.params (Str.ofString "asked"), .str (Str.ofString "asked") q6, .ref ak⟩] 4
theorem wtree_two {w : World} {mean : ExcName → Option Value} {mg mb : Str → Option Value} {news : List (Addr × Obj)} {a pl : Addr} {t1 t2 t3 t4 : Tok} {n k : Nat} {u v : Value} {U A B : Tr} {o : Str} {p : Int} (hf : U.fit p) (t : Two U o A B)
    (hm : (a, tup [.str (Str.ofString "two") t1, .str o t2, u, v] n) ∈ news) (hp : (pl, listOf #[.int (A.eval p) t3, .int (B.eval p) t4] k) ∈ news) {h dx dd ak : Addr} {q1 q2 q3 q4 q5 q6 : Tok} (hk1 : (h, instObj 382 dx) ∈ news) (hk2 : (dx, hookD w q1 q2 q3 q4 q5 q6 dd ak) ∈ news) :
    Call w mean mg mb 325 [.ref a, .ref pl, .ref h] 12 news fun led r => led = news ∧ ∃ t, r = .int (U.eval p) t := by
  cases t with
  | add => exact wtree_add hf.1.small hf.2.1.small ⟨by have := hf.2.2.1; omega, by have := hf.2.2.2; omega⟩ hm hp hk1 hk2
  | sub => exact wtree_sub hf.1.small hf.2.1.small ⟨by have := hf.2.2.1; omega, by have := hf.2.2.2; omega⟩ hm hp hk1 hk2
  | mul => exact wtree_mul hf.1.small hf.2.1.small ⟨by have := hf.2.2.1; omega, by have := hf.2.2.2; omega⟩ hm hp hk1 hk2
def JW (ak wl h : Addr) (p e : Int) (rest0 : List (Addr × Obj)) (big : Nat) (n : Nat) (m : Str → Option Value) (nx : List (Addr × Obj)) : Prop :=
  ∃ (vl : Addr) (as : List Value) (na : Nat) (ws : List Value) (nw : Nat) (vs : List Value) (nv : Nat) (rest : List (Addr × Obj)) (xs : List (Tr × Bool)) (zs : List Int),
    nx = (ak, listOf as.toArray na) :: (wl, listOf ws.toArray nw) :: (vl, listOf vs.toArray nv) :: rest ∧ m (Str.ofString "waiting") = some (.ref wl) ∧ m (Str.ofString "values") = some (.ref vl) ∧ m (Str.ofString "hooks") = some (.ref h) ∧
    (∀ q ∈ rest0, q ∈ rest) ∧ WsIn rest ws xs ∧ VsAre vs zs ∧ Ok p e xs zs ∧ n = wsum xs ∧ as.length + n ≤ big ∧ zs.length + n ≤ big ∧ (∀ q ∈ rest, q.1 ≠ ak) ∧ (∀ q ∈ rest, q.1 ≠ wl) ∧ @Ne Nat ak wl ∧ @Ne Nat ak vl ∧ @Ne Nat wl vl
theorem worth_loop {w : World} {A : Around} {E : Value → Shared → Prop} {Q : Flow → Shared → Prop} {s : Shared} {env : Env} {h₀ : Heap} {L : Addr} {test : Expr} {body : List Stmt} {pos : Pos} {m : Str → Option Value} {rest : List (Addr × Obj)} {D vl wl t ak h : Addr} {o : Obj} {v : Value} {as : List Value} {na : Nat} {T : Tr} {p : Int}
    (F : Fr h₀ L s.heap m) (N : News h₀ L s.heap ((D, o) :: (vl, listOf #[] 0) :: (wl, listOf #[.ref t] 0) :: (t, tup [v, .bool false] 0) :: (ak, listOf as.toArray na) :: rest))
    (h1 : m (Str.ofString "waiting") = some (.ref wl)) (h2 : m (Str.ofString "values") = some (.ref vl)) (h3 : m (Str.ofString "hooks") = some (.ref h)) (R : TrIn rest v T) (hT : T.fit p) (hw : T.w ≤ 40000) (hal : as.length ≤ 10000) (hoff : ∀ p ∈ rest, p.1 ≠ ak)
    (l1 : @LT.lt Nat _ ak t) (l2 : @LT.lt Nat _ t wl) (l3 : @LT.lt Nat _ wl vl) (l4 : AllLt wl rest)
    (turn : ∀ n m₁ news₁ h₁ tk₁, Fr h₀ L h₁ m₁ → News h₀ L h₁ news₁ → JW ak wl h p (T.eval p) rest 90000 n m₁ news₁ →
      wpAny (model PySem.Challenge.rw_xm0043_01.row.prog w) A (isTrue test env (eval test env)) (fun b s₂ =>
        if b = true then wpAny (model PySem.Challenge.rw_xm0043_01.row.prog w) A (execs body env) (WhileStep2 h₀ L s (JW ak wl h p (T.eval p) rest 90000) Q n) E s₂ else Q .next s₂) E { s with heap := h₁, toks := tk₁ })
    (hE : PassesOwn (model PySem.Challenge.rw_xm0043_01.row.prog w) A env E := by passes_own) :
    wpAny (model PySem.Challenge.rw_xm0043_01.row.prog w) A (exec (.While test body [] pos) env) Q E s := by
  have h14 : @LT.lt Nat _ t vl := Nat.lt_trans l2 l3
  refine While_inv2 (JW ak wl h p (T.eval p) rest 90000) (n₀ := T.w) (news := (ak, listOf as.toArray na) :: (wl, listOf #[.ref t] 0) :: (vl, listOf #[] 0) :: (t, tup [v, .bool false] 0) :: rest) F (fun q hq => N q ?_) ?_ turn hE
  · simp only [List.mem_cons] at hq ⊢
    rcases hq with h | h | h | h | h <;> simp [h]
  · refine ⟨vl, as, na, [.ref t], 0, [], 0, (t, tup [v, .bool false] 0) :: rest, [(T, false)], [], rfl, h1, h2, h3, fun q hq => .tail _ hq, ?_, .nil, ⟨hT, rfl⟩, ?_, ?_, ?_, ?_, ?_, Nat.ne_of_lt (Nat.lt_trans l1 l2), Nat.ne_of_lt (Nat.lt_trans l1 h14), Nat.ne_of_lt l3⟩
    · exact WsIn.snoc (ws := []) .nil (.head _) (R.mono fun q hq => .tail _ hq)
    · simp [wsum, wOf]
    · omega
    · simp only [List.length_nil]; omega
    · intro q hq
      rcases List.mem_cons.mp hq with rfl | hq
      · exact Nat.ne_of_gt l1
      · exact hoff q hq
    · intro q hq
      rcases List.mem_cons.mp hq with rfl | hq
      · exact Nat.ne_of_lt l2
      · exact allLt_ne l4 q hq
theorem VsAre.two {vs : List Value} {zs : List Int} {a b : Int} (h : VsAre vs (b :: a :: zs)) : ∃ vs' ta tb, vs = vs' ++ [.int a ta, .int b tb] ∧ VsAre vs' zs := by
  cases h with
  | snoc h => cases h with
    | snoc h => exact ⟨_, _, _, by rw [List.append_assoc]; rfl, h⟩
theorem two_uniq {U A B A' B' : Tr} {o o' : Str} (t : Two U o A B) (t' : Two U o' A' B') : o = o' ∧ A = A' ∧ B = B' := by
  cases t <;> cases t' <;> exact ⟨rfl, rfl, rfl⟩
theorem two_x {o : Str} {A B : Tr} (t : Two .x o A B) : False := nomatch t
theorem two_num {k : Int} {o : Str} {A B : Tr} (t : Two (.num k) o A B) : False := nomatch t
theorem pick_end {vs : List Value} {k : Int} (h : (vs.length : Int) = k) : kms_pick vs.toArray.toList (some k) none = [] := by
  have := pick_from (pre := vs) (r := []) h
  rwa [List.append_nil] at this
theorem pick_whole {vs : List Value} {k : Int} (h : (vs.length : Int) = k) : kms_pick vs.toArray.toList none (some k) = vs := by
  have := pick_to (pre := vs) (r := []) h
  rwa [List.append_nil] at this
theorem len_V {prog : Program} {w : World} {A : Around} {E : Value → Shared → Prop} {s : Shared} {h₀ : Heap} {L l : Addr} {news : List (Addr × Obj)} {vs : List Value} {n : Nat} {k : Int} {Q : Value → Shared → Prop}
    (N : News h₀ L s.heap news) (hm : (l, listOf vs.toArray n) ∈ news) (hv : (vs.length : Int) = k) (hz : k ≤ 1000000) (h : Q (.int k (s.toks + 1)) { s with toks := s.toks + 1 + 1 }) :
    wpAny (model prog w) A (call (.builtin "len") [.ref l]) Q E s := by
  subst hv
  exact len_L N hm (by omega) h
theorem ne_of_off {l : List (Addr × Obj)} {d : Addr} {q : Addr × Obj} (h : ∀ p ∈ l, p.1 ≠ d) (hq : q ∈ l) : q.1 ≠ d := h q hq
section
variable {h₀ h' : Heap} {L ak wl h vl : Addr} {p e : Int} {rest0 rs all : List (Addr × Obj)} {big n tk : Nat} {m' : Str → Option Value} {s : Shared} {Q : Flow → Shared → Prop} {as vs' ws : List Value} {na nw nv : Nat} {xs : List (Tr × Bool)} {zs : List Int}
/-- a turn that puts a value -/
theorem w_pop {vl' : Addr} (F : Fr h₀ L h' m') (N : News h₀ L h' all) (sub : ∀ q ∈ (ak, listOf as.toArray na) :: (wl, listOf ws.toArray nw) :: (vl', listOf vs'.toArray nv) :: rs, q ∈ all)
    (h1 : m' (Str.ofString "waiting") = some (.ref wl)) (h2 : m' (Str.ofString "values") = some (.ref vl')) (h3 : m' (Str.ofString "hooks") = some (.ref h)) (hs : ∀ q ∈ rest0, q ∈ rs) (hW : WsIn rs ws xs) (hV : VsAre vs' zs) (hO : Ok p e xs zs)
    (lt : wsum xs < n) (b1 : as.length + wsum xs ≤ big) (b2 : zs.length + wsum xs ≤ big) (hd1 : ∀ q ∈ rs, q.1 ≠ ak) (hd2 : ∀ q ∈ rs, q.1 ≠ wl) (a1 : @Ne Nat ak wl) (a2 : @Ne Nat ak vl') (a3 : @Ne Nat wl vl') :
    WhileStep2 h₀ L s (JW ak wl h p e rest0 big) Q n .next { s with heap := h', toks := tk } :=
  ⟨h', tk, m', _, wsum xs, rfl, F, fun q hq => N q (sub q hq), lt, vl', as, na, ws, nw, vs', nv, rs, xs, zs, rfl, h1, h2, h3, hs, hW, hV, hO, rfl, b1, b2, hd1, hd2, a1, a2, a3⟩
/-- a turn that opens a node -/
theorem w_push {U A B : Tr} {o : Str} {a T P1 P2 : Addr} {u v : Value} {t1 t2 : Tok} {nn k1 k2 k3 : Nat} (t : Two U o A B) (F : Fr h₀ L h' m') (N : News h₀ L h' all)
    (sub : ∀ q ∈ (ak, listOf as.toArray na) :: (wl, listOf (List.toArray ((ws ++ [Value.ref T] : List Value) ++ ([Value.ref P2, Value.ref P1] : List Value))) nw) :: (vl, listOf vs'.toArray nv) :: (T, tup [.ref a, .bool true] k1) :: (P2, tup [v, .bool false] k2) :: (P1, tup [u, .bool false] k3) :: rs, q ∈ all)
    (h1 : m' (Str.ofString "waiting") = some (.ref wl)) (h2 : m' (Str.ofString "values") = some (.ref vl)) (h3 : m' (Str.ofString "hooks") = some (.ref h)) (hs : ∀ q ∈ rest0, q ∈ rs) (hW : WsIn rs ws xs)
    (hm : (a, tup [.str (Str.ofString "two") t1, .str o t2, u, v] nn) ∈ rs) (hA : TrIn rs u A) (hB : TrIn rs v B) (hV : VsAre vs' zs) (hO : Ok p e ((U, false) :: xs) zs) (hn : n = U.w + wsum xs) (b1 : as.length + n ≤ big) (b2 : zs.length + n ≤ big) (hd1 : ∀ q ∈ rs, q.1 ≠ ak) (hd2 : ∀ q ∈ rs, q.1 ≠ wl) (a1 : @Ne Nat ak wl) (a2 : @Ne Nat ak vl) (a3 : @Ne Nat wl vl)
    (c : @Ne Nat T ak ∧ @Ne Nat P2 ak ∧ @Ne Nat P1 ak ∧ @Ne Nat T wl ∧ @Ne Nat P2 wl ∧ @Ne Nat P1 wl) :
    WhileStep2 h₀ L s (JW ak wl h p e rest0 big) Q n .next { s with heap := h', toks := tk } := by
  have hw := two_w t
  have hU : TrIn ((T, tup [.ref a, .bool true] k1) :: (P2, tup [v, .bool false] k2) :: (P1, tup [u, .bool false] k3) :: rs) (.ref a) U := by
    have hA' : TrIn ((T, tup [.ref a, .bool true] k1) :: (P2, tup [v, .bool false] k2) :: (P1, tup [u, .bool false] k3) :: rs) u A := hA.mono fun q hq => .tail _ (.tail _ (.tail _ hq))
    have hB' : TrIn ((T, tup [.ref a, .bool true] k1) :: (P2, tup [v, .bool false] k2) :: (P1, tup [u, .bool false] k3) :: rs) v B := hB.mono fun q hq => .tail _ (.tail _ (.tail _ hq))
    have hm' : (a, tup [.str (Str.ofString "two") t1, .str o t2, u, v] nn) ∈ ((T, tup [.ref a, .bool true] k1) :: (P2, tup [v, .bool false] k2) :: (P1, tup [u, .bool false] k3) :: rs) := .tail _ (.tail _ (.tail _ hm))
    cases t with
    | add => exact .add hm' hA' hB'
    | sub => exact .sub hm' hA' hB'
    | mul => exact .mul hm' hA' hB'
  have e3 : wsum ((A, false) :: (B, false) :: (U, true) :: xs) + 1 = n := by simp only [wsum, wOf]; omega
  refine ⟨h', tk, m', _, wsum ((A, false) :: (B, false) :: (U, true) :: xs), rfl, F, fun q hq => N q (sub q hq), by omega, vl, as, na, _, nw, vs', nv, (T, tup [.ref a, .bool true] k1) :: (P2, tup [v, .bool false] k2) :: (P1, tup [u, .bool false] k3) :: rs, (A, false) :: (B, false) :: (U, true) :: xs, zs, rfl, h1, h2, h3, (fun q hq => .tail _ (.tail _ (.tail _ (hs q hq)))), ?_, hV, ok_two t hO, rfl, by omega, by omega, ?_, ?_, a1, a2, a3⟩
  · have e1 : (ws ++ [Value.ref T] : List Value) ++ ([Value.ref P2, Value.ref P1] : List Value) = (((ws ++ [Value.ref T]) ++ [Value.ref P2]) ++ [Value.ref P1] : List Value) := by simp
    rw [e1]
    exact .snoc (.snoc (.snoc (hW.mono fun q hq => .tail _ (.tail _ (.tail _ hq))) (.head _) hU) (.tail _ (.head _)) (hB.mono fun q hq => .tail _ (.tail _ (.tail _ hq)))) (.tail _ (.tail _ (.head _))) (hA.mono fun q hq => .tail _ (.tail _ (.tail _ hq)))
  · intro q hq
    rcases List.mem_cons.mp hq with rfl | hq
    · exact c.1
    rcases List.mem_cons.mp hq with rfl | hq
    · exact c.2.1
    rcases List.mem_cons.mp hq with rfl | hq
    · exact c.2.2.1
    · exact hd1 q hq
  · intro q hq
    rcases List.mem_cons.mp hq with rfl | hq
    · exact c.2.2.2.1
    rcases List.mem_cons.mp hq with rfl | hq
    · exact c.2.2.2.2.1
    rcases List.mem_cons.mp hq with rfl | hq
    · exact c.2.2.2.2.2
    · exact hd2 q hq
end
theorem not_long {a b : Array Value} (h : a.size + b.size ≤ 1000000) : ¬(!a.isEmpty && Builtin.List.listTooLong (a.size + b.size)) = true := by
  simp [Builtin.List.listTooLong, sizeLine]; omega
theorem news_front2 {h₀ h : Heap} {L : Addr} {a b c : Addr × Obj} {r : List (Addr × Obj)} (N : News h₀ L h (a :: b :: c :: r)) : News h₀ L h (c :: a :: b :: r) := fun p hp => N p (by
  simp only [List.mem_cons] at hp ⊢
  rcases hp with h | h | h | h <;> simp [h])
end PartW4
section PartW5
open PyProof.V PySem.Spec
local macro_rules | `(tactic| walk1) => `(tactic| ((with_reducible show WSrc _ _ _ _ _ _ _ _ _ _ _ _ _ _ _); walk_say "WALK WSrc"; k_dflt (first
  | (refine WSrc.tuple (by rfl) (by k_asm) (by k_asm) (by k_mem) (by first | size_fits | exact Nat.le_of_ble_eq_true rfl) ?_; intro g'; lcg_lit)
  | (refine WSrc.rev (by rfl) (by k_asm) (by k_asm) (by first | assumption | exact ktn_ltOf (by assumption)) (by k_mem) (by first | size_fits | exact Nat.le_of_ble_eq_true rfl) ?_; intro g'; lcg_lit))))
local macro_rules | `(tactic| walk1) => `(tactic| ((with_reducible show LCg.CompEnd _ _ _ _ _ _ _ _ _ _ _ _ _ _); walk_say "WALK own CompEnd"; k_dflt (
  (rename Fr _ _ _ _ => F7); (rename News _ _ _ _ => N7);
  (first
  | (refine LCg.CompEnd.intro F7 N7 _ perm4 ⟨⟨by k_ne, by k_ne, by k_ne⟩, by assumption⟩ (Or.inr ⟨_, by k_mem, rfl, 0, rfl⟩) ?_)
  | (refine LCg.CompEnd.intro F7 N7 _ (fun _ h9 => h9) (by assumption) (Or.inr ⟨_, by k_mem, rfl, 0, rfl⟩) ?_)))))
local macro_rules | `(tactic| k_all) => `(tactic| first | assumption | exact allLt_ne (by assumption))
local macro_rules | `(tactic| walk_at "call builtin:len") => `(tactic| (k_here; (with_reducible show wpAny _ _ (call (Value.builtin "len") [Value.ref _]) _ _ _); k_dflt (refine' len_V ?k1 ?k2 ?k3 ?k4 ?_; (case k1 => k_asm); (case k2 => k_mem); (case k3 => assumption); (case k4 => omega))))
local macro_rules | `(tactic| walk_at "call builtin:list.pop") => `(tactic| (k_here; k_dflt (refine' kl_pop ?F ?N ?e ?U ?z ?_; (case F => k_asm); (case N => k_asm); (case U => k_upd); (case e => exact kpa_last _ _); (case z => (simp only [List.toList_toArray, List.length_append, List.length_cons, List.length_nil, sizeLine_eq]; omega))); kl_rest))
local macro_rules | `(tactic| walk_at "call builtin:list.extend") => `(tactic| (k_here; (with_reducible show wpAny _ _ (call (Value.builtin _) [Value.ref _, Value.ref _]) _ _ _); k_dflt (refine' kl_extend ?F ?N ?b ?e ?ne ?U ?d ?z ?y ?_; (case F => k_asm); (case N => k_asm); (case b => k_mem); (case U => k_upd); (case e => exact cat_lit); (case ne => exact Nat.succ_ne_zero _); (case d => exact not_long (by (simp only [List.size_toArray, List.length_append, List.length_cons, List.length_nil]; omega))); (case z => (simp only [List.toList_toArray, List.length_append, List.length_cons, List.length_nil, sizeLine_eq]; omega)); (case y => (simp only [List.size_toArray, List.length_append, List.length_cons, List.length_nil, sizeLine_eq]; omega))); kl_rest))
local macro_rules | `(tactic| walk_at "subscriptTail Name Slice ref ref") => `(tactic| (k_here; k_dflt ((refine' kms_slice_lit ?F ?N ?l ?p ?q ?e ?_ ?s ?t ?z; (case F => k_asm); (case N => k_asm); (case l => kmk_list); (case p => kmk_part); (case q => kmk_part); (case e => first | exact pick_end (by omega) | exact pick_whole (by omega) | exact pick_to (by omega) | exact pick_from (by omega)); (case s => with_unfolding_all rfl); (case t => kmk_pure); (case z => (simp only [List.size_toArray, List.length_append, List.length_cons, List.length_nil, sizeLine_eq]; omega))); intro D' h' F' N' l1; (try k_lt l1); (try k_sweep))))
local macro_rules | `(tactic| walk_at "dummy 1") => `(tactic| fail)
theorem worth_call {w : World} {mean : ExcName → Option Value} {mg mb : Str → Option Value} {rest : List (Addr × Obj)} {v : Value} {T : Tr} {p : Int} {tp : Tok} {as : List Value} {na : Nat} {h dx dd ak : Addr} {q1 q2 q3 q4 q5 q6 : Tok} {od : Obj}
    (R : TrIn rest v T) (hT : T.fit p) (hw : T.w ≤ 40000) (hk1 : (h, instObj 382 dx) ∈ rest) (hk2 : (dx, hookD w q1 q2 q3 q4 q5 q6 dd ak) ∈ rest) (hd : (dd, od) ∈ rest) (hdo : od.IsDictOf (PySem.strKind prg w) [(Str.ofString "X", .int p tp)]) (hds : (dd == sysModules) = false) (hal : as.length ≤ 10000) (hoff : ∀ p ∈ rest, p.1 ≠ ak) :
    Call w mean mg mb 330 [v, .ref h] 16 ((ak, listOf as.toArray na) :: rest) fun led r => led = rest ∧ ∃ t, r = .int (T.eval p) t := by
  unfold Call
  k_fill
  intro dp un gd cn cs a₁ ccd cl outer A₀ base h₀ L m s Q E B F X N TT hk hd₁ hu hret
  refine wpAny_call ?_
  k_dflt ktr_enter
  k_with_none
  repeat' ((fail_if_success (with_reducible show wpAny _ _ (exec (Stmt.While _ _ _ _) _) _ _ _)); first | (k_unfold; (try dsimp only)) | (k_end; wrow_close) | ((with_reducible show wpAny _ _ (PySem.call (Value.ref 325) _) _ _ _); k_dflt (((rename News _ _ _ _ => N9); replace N9 := news_front2 N9; (refine' Call.use ?k1 ?k2 ?k3 ?k4 ?k5 ?k6 (wtree_x ?hm ?hk1 ?hk2 ?hd ?hdo ?hds ?hal ?hoff) ?k7 ?k8 ?_; (case k1 => k_asm); (case k2 => k_asm); (case k3 => k_asm); (case k4 => k_asm); (case hm => k_mem); (case hk1 => k_mem); (case hk2 => k_mem); (case hd => k_mem); (case hdo => assumption); (case hds => assumption); (case hal => omega); (case hoff => k_all); (case k5 => k_asm); (case k6 => exact rfl); (case k7 => ktr_room); (case k8 => ktr_units); intro r9 led9 h9 tk9 F9 N9 P9; refine Exists.elim P9 ?_; clear P9; intro t9 P9; refine Exists.elim P9 ?_; clear P9; intro n9 P9; obtain ⟨e9, e9b⟩ := P9; subst e9; subst e9b; (try dsimp only); (try k_fold))))) | ((with_reducible show wpAny _ _ (PySem.call (Value.ref 325) _) _ _ _); k_dflt ((refine' Call.use ?k1 ?k2 ?k3 ?k4 ?k5 ?k6 (wtree_two ?hf ?ht ?hm ?hp ?hk1 ?hk2) ?k7 ?k8 ?_; (case k1 => k_asm); (case k2 => k_asm); (case k3 => k_asm); (case k4 => k_asm); (case hf => assumption); (case ht => assumption); (case hm => k_mem); (case hp => k_mem); (case hk1 => k_mem); (case hk2 => k_mem); (case k5 => k_asm); (case k6 => exact rfl); (case k7 => ktr_room); (case k8 => ktr_units); intro r9 led9 h9 tk9 F9 N9 P9; obtain ⟨e9, e9b⟩ := P9; replace e9 := e9.symm; subst e9; (try (refine Exists.elim e9b ?_; clear e9b; intro t9 e9b)); subst e9b; (try dsimp only); (try k_fold)))) | ((with_reducible show wpAny _ _ (PySem.call (Value.ref 325) _) _ _ _); k_dflt ((refine' Call.use ?k1 ?k2 ?k3 ?k4 ?k5 ?k6 (wtree_num ?hc ?hm ?hk1 ?hk2) ?k7 ?k8 ?_; (case k1 => k_asm); (case k2 => k_asm); (case k3 => k_asm); (case k4 => k_asm); (case hm => k_mem); (case hc => assumption); (case hk1 => k_mem); (case hk2 => k_mem); (case k5 => k_asm); (case k6 => exact rfl); (case k7 => ktr_room); (case k8 => ktr_units); intro r9 led9 h9 tk9 F9 N9 P9; obtain ⟨e9, e9b⟩ := P9; replace e9 := e9.symm; subst e9; (try (refine Exists.elim e9b ?_; clear e9b; intro t9 e9b)); subst e9b; (try dsimp only); (try k_fold)))) | ((with_reducible show wpAny _ _ (PySem.call (Value.ref 276) _) _ _ _); k_dflt ((refine' Call.use ?k1 ?k2 ?k3 ?k4 ?k5 ?k6 (parts_two ?hm) ?k7 ?k8 ?_; (case k1 => k_asm); (case k2 => k_asm); (case k3 => k_asm); (case k4 => k_asm); (case hm => k_mem); (case k5 => k_asm); (case k6 => exact rfl); (case k7 => ktr_room); (case k8 => ktr_units); intro r9 led9 h9 tk9 F9 N9 P9; obtain ⟨pl9, k9, e9, e9b, l9⟩ := P9; subst e9; subst e9b; (try simp only [AllLt] at l9); (try dsimp only); (try k_fold)))) | ((with_reducible show wpAny _ _ (PySem.call (Value.ref 276) _) _ _ _); k_dflt ((refine' Call.use ?k1 ?k2 ?k3 ?k4 ?k5 ?k6 (parts_num ?hm) ?k7 ?k8 ?_; (case k1 => k_asm); (case k2 => k_asm); (case k3 => k_asm); (case k4 => k_asm); (case hm => k_mem); (case k5 => k_asm); (case k6 => exact rfl); (case k7 => ktr_room); (case k8 => ktr_units); intro r9 led9 h9 tk9 F9 N9 P9; obtain ⟨pl9, k9, e9, e9b, l9⟩ := P9; subst e9; subst e9b; (try simp only [AllLt] at l9); (try dsimp only); (try k_fold)))) | ((with_reducible show wpAny _ _ (PySem.call (Value.ref 276) _) _ _ _); k_dflt ((refine' Call.use ?k1 ?k2 ?k3 ?k4 ?k5 ?k6 (parts_x ?hm) ?k7 ?k8 ?_; (case k1 => k_asm); (case k2 => k_asm); (case k3 => k_asm); (case k4 => k_asm); (case hm => k_mem); (case k5 => k_asm); (case k6 => exact rfl); (case k7 => ktr_room); (case k8 => ktr_units); intro r9 led9 h9 tk9 F9 N9 P9; obtain ⟨pl9, k9, e9, e9b, l9⟩ := P9; subst e9; subst e9b; (try simp only [AllLt] at l9); (try dsimp only); (try k_fold)))) | walk1 | (dsimp only; first | ((with_reducible show wpAny _ _ (PySem.call (Value.ref 325) _) _ _ _); k_dflt (((rename News _ _ _ _ => N9); replace N9 := news_front2 N9; (refine' Call.use ?k1 ?k2 ?k3 ?k4 ?k5 ?k6 (wtree_x ?hm ?hk1 ?hk2 ?hd ?hdo ?hds ?hal ?hoff) ?k7 ?k8 ?_; (case k1 => k_asm); (case k2 => k_asm); (case k3 => k_asm); (case k4 => k_asm); (case hm => k_mem); (case hk1 => k_mem); (case hk2 => k_mem); (case hd => k_mem); (case hdo => assumption); (case hds => assumption); (case hal => omega); (case hoff => k_all); (case k5 => k_asm); (case k6 => exact rfl); (case k7 => ktr_room); (case k8 => ktr_units); intro r9 led9 h9 tk9 F9 N9 P9; refine Exists.elim P9 ?_; clear P9; intro t9 P9; refine Exists.elim P9 ?_; clear P9; intro n9 P9; obtain ⟨e9, e9b⟩ := P9; subst e9; subst e9b; (try dsimp only); (try k_fold))))) | ((with_reducible show wpAny _ _ (PySem.call (Value.ref 325) _) _ _ _); k_dflt ((refine' Call.use ?k1 ?k2 ?k3 ?k4 ?k5 ?k6 (wtree_two ?hf ?ht ?hm ?hp ?hk1 ?hk2) ?k7 ?k8 ?_; (case k1 => k_asm); (case k2 => k_asm); (case k3 => k_asm); (case k4 => k_asm); (case hf => assumption); (case ht => assumption); (case hm => k_mem); (case hp => k_mem); (case hk1 => k_mem); (case hk2 => k_mem); (case k5 => k_asm); (case k6 => exact rfl); (case k7 => ktr_room); (case k8 => ktr_units); intro r9 led9 h9 tk9 F9 N9 P9; obtain ⟨e9, e9b⟩ := P9; replace e9 := e9.symm; subst e9; (try (refine Exists.elim e9b ?_; clear e9b; intro t9 e9b)); subst e9b; (try dsimp only); (try k_fold)))) | ((with_reducible show wpAny _ _ (PySem.call (Value.ref 325) _) _ _ _); k_dflt ((refine' Call.use ?k1 ?k2 ?k3 ?k4 ?k5 ?k6 (wtree_num ?hc ?hm ?hk1 ?hk2) ?k7 ?k8 ?_; (case k1 => k_asm); (case k2 => k_asm); (case k3 => k_asm); (case k4 => k_asm); (case hm => k_mem); (case hc => assumption); (case hk1 => k_mem); (case hk2 => k_mem); (case k5 => k_asm); (case k6 => exact rfl); (case k7 => ktr_room); (case k8 => ktr_units); intro r9 led9 h9 tk9 F9 N9 P9; obtain ⟨e9, e9b⟩ := P9; replace e9 := e9.symm; subst e9; (try (refine Exists.elim e9b ?_; clear e9b; intro t9 e9b)); subst e9b; (try dsimp only); (try k_fold)))) | ((with_reducible show wpAny _ _ (PySem.call (Value.ref 276) _) _ _ _); k_dflt ((refine' Call.use ?k1 ?k2 ?k3 ?k4 ?k5 ?k6 (parts_two ?hm) ?k7 ?k8 ?_; (case k1 => k_asm); (case k2 => k_asm); (case k3 => k_asm); (case k4 => k_asm); (case hm => k_mem); (case k5 => k_asm); (case k6 => exact rfl); (case k7 => ktr_room); (case k8 => ktr_units); intro r9 led9 h9 tk9 F9 N9 P9; obtain ⟨pl9, k9, e9, e9b, l9⟩ := P9; subst e9; subst e9b; (try simp only [AllLt] at l9); (try dsimp only); (try k_fold)))) | ((with_reducible show wpAny _ _ (PySem.call (Value.ref 276) _) _ _ _); k_dflt ((refine' Call.use ?k1 ?k2 ?k3 ?k4 ?k5 ?k6 (parts_num ?hm) ?k7 ?k8 ?_; (case k1 => k_asm); (case k2 => k_asm); (case k3 => k_asm); (case k4 => k_asm); (case hm => k_mem); (case k5 => k_asm); (case k6 => exact rfl); (case k7 => ktr_room); (case k8 => ktr_units); intro r9 led9 h9 tk9 F9 N9 P9; obtain ⟨pl9, k9, e9, e9b, l9⟩ := P9; subst e9; subst e9b; (try simp only [AllLt] at l9); (try dsimp only); (try k_fold)))) | ((with_reducible show wpAny _ _ (PySem.call (Value.ref 276) _) _ _ _); k_dflt ((refine' Call.use ?k1 ?k2 ?k3 ?k4 ?k5 ?k6 (parts_x ?hm) ?k7 ?k8 ?_; (case k1 => k_asm); (case k2 => k_asm); (case k3 => k_asm); (case k4 => k_asm); (case hm => k_mem); (case k5 => k_asm); (case k6 => exact rfl); (case k7 => ktr_room); (case k8 => ktr_units); intro r9 led9 h9 tk9 F9 N9 P9; obtain ⟨pl9, k9, e9, e9b, l9⟩ := P9; subst e9; subst e9b; (try simp only [AllLt] at l9); (try dsimp only); (try k_fold)))) | walk1) | (leave1; walk_say "STEP leave1"; try dsimp only) | fail "no step")
  (rename Fr _ _ _ _ => F9)
  (rename News _ _ _ _ => N9)
  ktn_open
  refine' worth_loop (T := T) F9 N9 rfl rfl rfl R hT hw hal hoff (by assumption) (by assumption) (by assumption) (by assumption) ?turn
  case turn =>
    intro n m₁ nx h₁ tk₁ F₁ N₁ hJ
    obtain ⟨vl, as1, na1, ws, nw, vs, nv, rs, xs, zs, rfl, hm1, hm2, hm3, hsub, hW, hV, hO, hn, hb1, hb2, hd1, hd2, ha1, ha2, ha3⟩ := hJ
    replace F₁ := fr_pin3 hm1 hm2 hm3 F₁
    have hk1' := hsub _ hk1
    have hk2' := hsub _ hk2
    have hd' := hsub _ hd
    have hlw := hW.length
    have hlv := hV.length
    have hlx := wsum_len xs
    clear F9 N9 N
    try k_fold
    cases hW with
    | nil =>
      subst hO
      cases hV with
      | snoc hV =>
        cases hV
        repeat' (first | (k_unfold; (try dsimp only)) | (k_end; wrow_close) | ((with_reducible show wpAny _ _ (PySem.call (Value.ref 325) _) _ _ _); k_dflt (((rename News _ _ _ _ => N9); replace N9 := news_front2 N9; (refine' Call.use ?k1 ?k2 ?k3 ?k4 ?k5 ?k6 (wtree_x ?hm ?hk1 ?hk2 ?hd ?hdo ?hds ?hal ?hoff) ?k7 ?k8 ?_; (case k1 => k_asm); (case k2 => k_asm); (case k3 => k_asm); (case k4 => k_asm); (case hm => k_mem); (case hk1 => k_mem); (case hk2 => k_mem); (case hd => k_mem); (case hdo => assumption); (case hds => assumption); (case hal => omega); (case hoff => k_all); (case k5 => k_asm); (case k6 => exact rfl); (case k7 => ktr_room); (case k8 => ktr_units); intro r9 led9 h9 tk9 F9 N9 P9; refine Exists.elim P9 ?_; clear P9; intro t9 P9; refine Exists.elim P9 ?_; clear P9; intro n9 P9; obtain ⟨e9, e9b⟩ := P9; subst e9; subst e9b; (try dsimp only); (try k_fold))))) | ((with_reducible show wpAny _ _ (PySem.call (Value.ref 325) _) _ _ _); k_dflt ((refine' Call.use ?k1 ?k2 ?k3 ?k4 ?k5 ?k6 (wtree_two ?hf ?ht ?hm ?hp ?hk1 ?hk2) ?k7 ?k8 ?_; (case k1 => k_asm); (case k2 => k_asm); (case k3 => k_asm); (case k4 => k_asm); (case hf => assumption); (case ht => assumption); (case hm => k_mem); (case hp => k_mem); (case hk1 => k_mem); (case hk2 => k_mem); (case k5 => k_asm); (case k6 => exact rfl); (case k7 => ktr_room); (case k8 => ktr_units); intro r9 led9 h9 tk9 F9 N9 P9; obtain ⟨e9, e9b⟩ := P9; replace e9 := e9.symm; subst e9; (try (refine Exists.elim e9b ?_; clear e9b; intro t9 e9b)); subst e9b; (try dsimp only); (try k_fold)))) | ((with_reducible show wpAny _ _ (PySem.call (Value.ref 325) _) _ _ _); k_dflt ((refine' Call.use ?k1 ?k2 ?k3 ?k4 ?k5 ?k6 (wtree_num ?hc ?hm ?hk1 ?hk2) ?k7 ?k8 ?_; (case k1 => k_asm); (case k2 => k_asm); (case k3 => k_asm); (case k4 => k_asm); (case hm => k_mem); (case hc => assumption); (case hk1 => k_mem); (case hk2 => k_mem); (case k5 => k_asm); (case k6 => exact rfl); (case k7 => ktr_room); (case k8 => ktr_units); intro r9 led9 h9 tk9 F9 N9 P9; obtain ⟨e9, e9b⟩ := P9; replace e9 := e9.symm; subst e9; (try (refine Exists.elim e9b ?_; clear e9b; intro t9 e9b)); subst e9b; (try dsimp only); (try k_fold)))) | ((with_reducible show wpAny _ _ (PySem.call (Value.ref 276) _) _ _ _); k_dflt ((refine' Call.use ?k1 ?k2 ?k3 ?k4 ?k5 ?k6 (parts_two ?hm) ?k7 ?k8 ?_; (case k1 => k_asm); (case k2 => k_asm); (case k3 => k_asm); (case k4 => k_asm); (case hm => k_mem); (case k5 => k_asm); (case k6 => exact rfl); (case k7 => ktr_room); (case k8 => ktr_units); intro r9 led9 h9 tk9 F9 N9 P9; obtain ⟨pl9, k9, e9, e9b, l9⟩ := P9; subst e9; subst e9b; (try simp only [AllLt] at l9); (try dsimp only); (try k_fold)))) | ((with_reducible show wpAny _ _ (PySem.call (Value.ref 276) _) _ _ _); k_dflt ((refine' Call.use ?k1 ?k2 ?k3 ?k4 ?k5 ?k6 (parts_num ?hm) ?k7 ?k8 ?_; (case k1 => k_asm); (case k2 => k_asm); (case k3 => k_asm); (case k4 => k_asm); (case hm => k_mem); (case k5 => k_asm); (case k6 => exact rfl); (case k7 => ktr_room); (case k8 => ktr_units); intro r9 led9 h9 tk9 F9 N9 P9; obtain ⟨pl9, k9, e9, e9b, l9⟩ := P9; subst e9; subst e9b; (try simp only [AllLt] at l9); (try dsimp only); (try k_fold)))) | ((with_reducible show wpAny _ _ (PySem.call (Value.ref 276) _) _ _ _); k_dflt ((refine' Call.use ?k1 ?k2 ?k3 ?k4 ?k5 ?k6 (parts_x ?hm) ?k7 ?k8 ?_; (case k1 => k_asm); (case k2 => k_asm); (case k3 => k_asm); (case k4 => k_asm); (case hm => k_mem); (case k5 => k_asm); (case k6 => exact rfl); (case k7 => ktr_room); (case k8 => ktr_units); intro r9 led9 h9 tk9 F9 N9 P9; obtain ⟨pl9, k9, e9, e9b, l9⟩ := P9; subst e9; subst e9b; (try simp only [AllLt] at l9); (try dsimp only); (try k_fold)))) | walk1 | (dsimp only; first | ((with_reducible show wpAny _ _ (PySem.call (Value.ref 325) _) _ _ _); k_dflt (((rename News _ _ _ _ => N9); replace N9 := news_front2 N9; (refine' Call.use ?k1 ?k2 ?k3 ?k4 ?k5 ?k6 (wtree_x ?hm ?hk1 ?hk2 ?hd ?hdo ?hds ?hal ?hoff) ?k7 ?k8 ?_; (case k1 => k_asm); (case k2 => k_asm); (case k3 => k_asm); (case k4 => k_asm); (case hm => k_mem); (case hk1 => k_mem); (case hk2 => k_mem); (case hd => k_mem); (case hdo => assumption); (case hds => assumption); (case hal => omega); (case hoff => k_all); (case k5 => k_asm); (case k6 => exact rfl); (case k7 => ktr_room); (case k8 => ktr_units); intro r9 led9 h9 tk9 F9 N9 P9; refine Exists.elim P9 ?_; clear P9; intro t9 P9; refine Exists.elim P9 ?_; clear P9; intro n9 P9; obtain ⟨e9, e9b⟩ := P9; subst e9; subst e9b; (try dsimp only); (try k_fold))))) | ((with_reducible show wpAny _ _ (PySem.call (Value.ref 325) _) _ _ _); k_dflt ((refine' Call.use ?k1 ?k2 ?k3 ?k4 ?k5 ?k6 (wtree_two ?hf ?ht ?hm ?hp ?hk1 ?hk2) ?k7 ?k8 ?_; (case k1 => k_asm); (case k2 => k_asm); (case k3 => k_asm); (case k4 => k_asm); (case hf => assumption); (case ht => assumption); (case hm => k_mem); (case hp => k_mem); (case hk1 => k_mem); (case hk2 => k_mem); (case k5 => k_asm); (case k6 => exact rfl); (case k7 => ktr_room); (case k8 => ktr_units); intro r9 led9 h9 tk9 F9 N9 P9; obtain ⟨e9, e9b⟩ := P9; replace e9 := e9.symm; subst e9; (try (refine Exists.elim e9b ?_; clear e9b; intro t9 e9b)); subst e9b; (try dsimp only); (try k_fold)))) | ((with_reducible show wpAny _ _ (PySem.call (Value.ref 325) _) _ _ _); k_dflt ((refine' Call.use ?k1 ?k2 ?k3 ?k4 ?k5 ?k6 (wtree_num ?hc ?hm ?hk1 ?hk2) ?k7 ?k8 ?_; (case k1 => k_asm); (case k2 => k_asm); (case k3 => k_asm); (case k4 => k_asm); (case hm => k_mem); (case hc => assumption); (case hk1 => k_mem); (case hk2 => k_mem); (case k5 => k_asm); (case k6 => exact rfl); (case k7 => ktr_room); (case k8 => ktr_units); intro r9 led9 h9 tk9 F9 N9 P9; obtain ⟨e9, e9b⟩ := P9; replace e9 := e9.symm; subst e9; (try (refine Exists.elim e9b ?_; clear e9b; intro t9 e9b)); subst e9b; (try dsimp only); (try k_fold)))) | ((with_reducible show wpAny _ _ (PySem.call (Value.ref 276) _) _ _ _); k_dflt ((refine' Call.use ?k1 ?k2 ?k3 ?k4 ?k5 ?k6 (parts_two ?hm) ?k7 ?k8 ?_; (case k1 => k_asm); (case k2 => k_asm); (case k3 => k_asm); (case k4 => k_asm); (case hm => k_mem); (case k5 => k_asm); (case k6 => exact rfl); (case k7 => ktr_room); (case k8 => ktr_units); intro r9 led9 h9 tk9 F9 N9 P9; obtain ⟨pl9, k9, e9, e9b, l9⟩ := P9; subst e9; subst e9b; (try simp only [AllLt] at l9); (try dsimp only); (try k_fold)))) | ((with_reducible show wpAny _ _ (PySem.call (Value.ref 276) _) _ _ _); k_dflt ((refine' Call.use ?k1 ?k2 ?k3 ?k4 ?k5 ?k6 (parts_num ?hm) ?k7 ?k8 ?_; (case k1 => k_asm); (case k2 => k_asm); (case k3 => k_asm); (case k4 => k_asm); (case hm => k_mem); (case k5 => k_asm); (case k6 => exact rfl); (case k7 => ktr_room); (case k8 => ktr_units); intro r9 led9 h9 tk9 F9 N9 P9; obtain ⟨pl9, k9, e9, e9b, l9⟩ := P9; subst e9; subst e9b; (try simp only [AllLt] at l9); (try dsimp only); (try k_fold)))) | ((with_reducible show wpAny _ _ (PySem.call (Value.ref 276) _) _ _ _); k_dflt ((refine' Call.use ?k1 ?k2 ?k3 ?k4 ?k5 ?k6 (parts_x ?hm) ?k7 ?k8 ?_; (case k1 => k_asm); (case k2 => k_asm); (case k3 => k_asm); (case k4 => k_asm); (case hm => k_mem); (case k5 => k_asm); (case k6 => exact rfl); (case k7 => ktr_room); (case k8 => ktr_units); intro r9 led9 h9 tk9 F9 N9 P9; obtain ⟨pl9, k9, e9, e9b, l9⟩ := P9; subst e9; subst e9b; (try simp only [AllLt] at l9); (try dsimp only); (try k_fold)))) | walk1) | (leave1; walk_say "STEP leave1"; try dsimp only) | fail "no step")
        (rename Fr _ _ _ _ => F7)
        (rename News _ _ _ _ => N7)
        exact hret _ rest _ _ F7 (fun q hq => N7 q (.tail _ (.tail _ (.tail _ (hsub q hq))))) ⟨rfl, _, rfl⟩
    | snoc hW hmt hU =>
      rename_i ws xs t u b k U
      simp only [List.length_append, List.length_cons, List.length_nil, wsum] at hlw hlx hn
      have hw1 := wOf_pos (U, b)
      have hvw : ((ws ++ [Value.ref t]).length : Int) = (ws.length : Int) + 1 := by simp
      cases b with
      | true =>
        obtain ⟨hf, o, A, B, z', t2, rfl, hO⟩ := hO
        rcases hU.shape with ⟨a, t1, t2, nn, rfl, rfl, hm⟩ | ⟨a, t1, t2, nn, kk, rfl, rfl, hm⟩ | ⟨a, t1, t2, nn, o', u, v, A', B', rfl, t3, hm, hA, hB⟩
        · exact (two_x ‹_›).elim
        · exact (two_num ‹_›).elim
        · obtain ⟨rfl, rfl, rfl⟩ := two_uniq t3 ‹Two U o A B›
          obtain ⟨vs', ta, tb, rfl, hV2⟩ := hV.two
          have hvl : ((vs' ++ [Value.int (Tr.eval p A') ta, Value.int (Tr.eval p B') tb]).length : Int) = (vs'.length : Int) + 2 := by simp
          have hvl' := hV2.length
          simp only [List.length_cons] at hlv hb2
          repeat' (first | (k_unfold; (try dsimp only)) | (k_end; wrow_close) | ((with_reducible show wpAny _ _ (PySem.call (Value.ref 325) _) _ _ _); k_dflt (((rename News _ _ _ _ => N9); replace N9 := news_front2 N9; (refine' Call.use ?k1 ?k2 ?k3 ?k4 ?k5 ?k6 (wtree_x ?hm ?hk1 ?hk2 ?hd ?hdo ?hds ?hal ?hoff) ?k7 ?k8 ?_; (case k1 => k_asm); (case k2 => k_asm); (case k3 => k_asm); (case k4 => k_asm); (case hm => k_mem); (case hk1 => k_mem); (case hk2 => k_mem); (case hd => k_mem); (case hdo => assumption); (case hds => assumption); (case hal => omega); (case hoff => k_all); (case k5 => k_asm); (case k6 => exact rfl); (case k7 => ktr_room); (case k8 => ktr_units); intro r9 led9 h9 tk9 F9 N9 P9; refine Exists.elim P9 ?_; clear P9; intro t9 P9; refine Exists.elim P9 ?_; clear P9; intro n9 P9; obtain ⟨e9, e9b⟩ := P9; subst e9; subst e9b; (try dsimp only); (try k_fold))))) | ((with_reducible show wpAny _ _ (PySem.call (Value.ref 325) _) _ _ _); k_dflt ((refine' Call.use ?k1 ?k2 ?k3 ?k4 ?k5 ?k6 (wtree_two ?hf ?ht ?hm ?hp ?hk1 ?hk2) ?k7 ?k8 ?_; (case k1 => k_asm); (case k2 => k_asm); (case k3 => k_asm); (case k4 => k_asm); (case hf => assumption); (case ht => assumption); (case hm => k_mem); (case hp => k_mem); (case hk1 => k_mem); (case hk2 => k_mem); (case k5 => k_asm); (case k6 => exact rfl); (case k7 => ktr_room); (case k8 => ktr_units); intro r9 led9 h9 tk9 F9 N9 P9; obtain ⟨e9, e9b⟩ := P9; replace e9 := e9.symm; subst e9; (try (refine Exists.elim e9b ?_; clear e9b; intro t9 e9b)); subst e9b; (try dsimp only); (try k_fold)))) | ((with_reducible show wpAny _ _ (PySem.call (Value.ref 325) _) _ _ _); k_dflt ((refine' Call.use ?k1 ?k2 ?k3 ?k4 ?k5 ?k6 (wtree_num ?hc ?hm ?hk1 ?hk2) ?k7 ?k8 ?_; (case k1 => k_asm); (case k2 => k_asm); (case k3 => k_asm); (case k4 => k_asm); (case hm => k_mem); (case hc => assumption); (case hk1 => k_mem); (case hk2 => k_mem); (case k5 => k_asm); (case k6 => exact rfl); (case k7 => ktr_room); (case k8 => ktr_units); intro r9 led9 h9 tk9 F9 N9 P9; obtain ⟨e9, e9b⟩ := P9; replace e9 := e9.symm; subst e9; (try (refine Exists.elim e9b ?_; clear e9b; intro t9 e9b)); subst e9b; (try dsimp only); (try k_fold)))) | ((with_reducible show wpAny _ _ (PySem.call (Value.ref 276) _) _ _ _); k_dflt ((refine' Call.use ?k1 ?k2 ?k3 ?k4 ?k5 ?k6 (parts_two ?hm) ?k7 ?k8 ?_; (case k1 => k_asm); (case k2 => k_asm); (case k3 => k_asm); (case k4 => k_asm); (case hm => k_mem); (case k5 => k_asm); (case k6 => exact rfl); (case k7 => ktr_room); (case k8 => ktr_units); intro r9 led9 h9 tk9 F9 N9 P9; obtain ⟨pl9, k9, e9, e9b, l9⟩ := P9; subst e9; subst e9b; (try simp only [AllLt] at l9); (try dsimp only); (try k_fold)))) | ((with_reducible show wpAny _ _ (PySem.call (Value.ref 276) _) _ _ _); k_dflt ((refine' Call.use ?k1 ?k2 ?k3 ?k4 ?k5 ?k6 (parts_num ?hm) ?k7 ?k8 ?_; (case k1 => k_asm); (case k2 => k_asm); (case k3 => k_asm); (case k4 => k_asm); (case hm => k_mem); (case k5 => k_asm); (case k6 => exact rfl); (case k7 => ktr_room); (case k8 => ktr_units); intro r9 led9 h9 tk9 F9 N9 P9; obtain ⟨pl9, k9, e9, e9b, l9⟩ := P9; subst e9; subst e9b; (try simp only [AllLt] at l9); (try dsimp only); (try k_fold)))) | ((with_reducible show wpAny _ _ (PySem.call (Value.ref 276) _) _ _ _); k_dflt ((refine' Call.use ?k1 ?k2 ?k3 ?k4 ?k5 ?k6 (parts_x ?hm) ?k7 ?k8 ?_; (case k1 => k_asm); (case k2 => k_asm); (case k3 => k_asm); (case k4 => k_asm); (case hm => k_mem); (case k5 => k_asm); (case k6 => exact rfl); (case k7 => ktr_room); (case k8 => ktr_units); intro r9 led9 h9 tk9 F9 N9 P9; obtain ⟨pl9, k9, e9, e9b, l9⟩ := P9; subst e9; subst e9b; (try simp only [AllLt] at l9); (try dsimp only); (try k_fold)))) | walk1 | (dsimp only; first | ((with_reducible show wpAny _ _ (PySem.call (Value.ref 325) _) _ _ _); k_dflt (((rename News _ _ _ _ => N9); replace N9 := news_front2 N9; (refine' Call.use ?k1 ?k2 ?k3 ?k4 ?k5 ?k6 (wtree_x ?hm ?hk1 ?hk2 ?hd ?hdo ?hds ?hal ?hoff) ?k7 ?k8 ?_; (case k1 => k_asm); (case k2 => k_asm); (case k3 => k_asm); (case k4 => k_asm); (case hm => k_mem); (case hk1 => k_mem); (case hk2 => k_mem); (case hd => k_mem); (case hdo => assumption); (case hds => assumption); (case hal => omega); (case hoff => k_all); (case k5 => k_asm); (case k6 => exact rfl); (case k7 => ktr_room); (case k8 => ktr_units); intro r9 led9 h9 tk9 F9 N9 P9; refine Exists.elim P9 ?_; clear P9; intro t9 P9; refine Exists.elim P9 ?_; clear P9; intro n9 P9; obtain ⟨e9, e9b⟩ := P9; subst e9; subst e9b; (try dsimp only); (try k_fold))))) | ((with_reducible show wpAny _ _ (PySem.call (Value.ref 325) _) _ _ _); k_dflt ((refine' Call.use ?k1 ?k2 ?k3 ?k4 ?k5 ?k6 (wtree_two ?hf ?ht ?hm ?hp ?hk1 ?hk2) ?k7 ?k8 ?_; (case k1 => k_asm); (case k2 => k_asm); (case k3 => k_asm); (case k4 => k_asm); (case hf => assumption); (case ht => assumption); (case hm => k_mem); (case hp => k_mem); (case hk1 => k_mem); (case hk2 => k_mem); (case k5 => k_asm); (case k6 => exact rfl); (case k7 => ktr_room); (case k8 => ktr_units); intro r9 led9 h9 tk9 F9 N9 P9; obtain ⟨e9, e9b⟩ := P9; replace e9 := e9.symm; subst e9; (try (refine Exists.elim e9b ?_; clear e9b; intro t9 e9b)); subst e9b; (try dsimp only); (try k_fold)))) | ((with_reducible show wpAny _ _ (PySem.call (Value.ref 325) _) _ _ _); k_dflt ((refine' Call.use ?k1 ?k2 ?k3 ?k4 ?k5 ?k6 (wtree_num ?hc ?hm ?hk1 ?hk2) ?k7 ?k8 ?_; (case k1 => k_asm); (case k2 => k_asm); (case k3 => k_asm); (case k4 => k_asm); (case hm => k_mem); (case hc => assumption); (case hk1 => k_mem); (case hk2 => k_mem); (case k5 => k_asm); (case k6 => exact rfl); (case k7 => ktr_room); (case k8 => ktr_units); intro r9 led9 h9 tk9 F9 N9 P9; obtain ⟨e9, e9b⟩ := P9; replace e9 := e9.symm; subst e9; (try (refine Exists.elim e9b ?_; clear e9b; intro t9 e9b)); subst e9b; (try dsimp only); (try k_fold)))) | ((with_reducible show wpAny _ _ (PySem.call (Value.ref 276) _) _ _ _); k_dflt ((refine' Call.use ?k1 ?k2 ?k3 ?k4 ?k5 ?k6 (parts_two ?hm) ?k7 ?k8 ?_; (case k1 => k_asm); (case k2 => k_asm); (case k3 => k_asm); (case k4 => k_asm); (case hm => k_mem); (case k5 => k_asm); (case k6 => exact rfl); (case k7 => ktr_room); (case k8 => ktr_units); intro r9 led9 h9 tk9 F9 N9 P9; obtain ⟨pl9, k9, e9, e9b, l9⟩ := P9; subst e9; subst e9b; (try simp only [AllLt] at l9); (try dsimp only); (try k_fold)))) | ((with_reducible show wpAny _ _ (PySem.call (Value.ref 276) _) _ _ _); k_dflt ((refine' Call.use ?k1 ?k2 ?k3 ?k4 ?k5 ?k6 (parts_num ?hm) ?k7 ?k8 ?_; (case k1 => k_asm); (case k2 => k_asm); (case k3 => k_asm); (case k4 => k_asm); (case hm => k_mem); (case k5 => k_asm); (case k6 => exact rfl); (case k7 => ktr_room); (case k8 => ktr_units); intro r9 led9 h9 tk9 F9 N9 P9; obtain ⟨pl9, k9, e9, e9b, l9⟩ := P9; subst e9; subst e9b; (try simp only [AllLt] at l9); (try dsimp only); (try k_fold)))) | ((with_reducible show wpAny _ _ (PySem.call (Value.ref 276) _) _ _ _); k_dflt ((refine' Call.use ?k1 ?k2 ?k3 ?k4 ?k5 ?k6 (parts_x ?hm) ?k7 ?k8 ?_; (case k1 => k_asm); (case k2 => k_asm); (case k3 => k_asm); (case k4 => k_asm); (case hm => k_mem); (case k5 => k_asm); (case k6 => exact rfl); (case k7 => ktr_room); (case k8 => ktr_units); intro r9 led9 h9 tk9 F9 N9 P9; obtain ⟨pl9, k9, e9, e9b, l9⟩ := P9; subst e9; subst e9b; (try simp only [AllLt] at l9); (try dsimp only); (try k_fold)))) | walk1) | (leave1; walk_say "STEP leave1"; try dsimp only) | fail "no step")
          (rename Fr _ _ _ _ => F7)
          (rename News _ _ _ _ => N7)
          ktn_open
          refine' w_pop (rs := rs) (as := as1) (na := na1) F7 N7 ?subt rfl rfl rfl hsub hW (.snoc hV2) hO ?ltt ?b1t ?b2t hd1 hd2 ha1 ?a2t ?a3t
          case subt => tb_start
          all_goals first | k_ne | (simp only [List.length_append, List.length_cons, List.length_nil]; omega) | omega

      | false =>
        obtain ⟨hf, hO⟩ := hO
        rcases hU.shape with ⟨a, t1, t2, nn, rfl, rfl, hm⟩ | ⟨a, t1, t2, nn, kk, rfl, rfl, hm⟩ | ⟨a, t1, t2, nn, o, u, v, A, B, rfl, t3, hm, hA, hB⟩
        · have hvl : (vs.length : Int) = (zs.length : Int) := by rw [hlv]
          repeat' (first | (k_unfold; (try dsimp only)) | (k_end; wrow_close) | ((with_reducible show wpAny _ _ (PySem.call (Value.ref 325) _) _ _ _); k_dflt (((rename News _ _ _ _ => N9); replace N9 := news_front2 N9; (refine' Call.use ?k1 ?k2 ?k3 ?k4 ?k5 ?k6 (wtree_x ?hm ?hk1 ?hk2 ?hd ?hdo ?hds ?hal ?hoff) ?k7 ?k8 ?_; (case k1 => k_asm); (case k2 => k_asm); (case k3 => k_asm); (case k4 => k_asm); (case hm => k_mem); (case hk1 => k_mem); (case hk2 => k_mem); (case hd => k_mem); (case hdo => assumption); (case hds => assumption); (case hal => omega); (case hoff => k_all); (case k5 => k_asm); (case k6 => exact rfl); (case k7 => ktr_room); (case k8 => ktr_units); intro r9 led9 h9 tk9 F9 N9 P9; refine Exists.elim P9 ?_; clear P9; intro t9 P9; refine Exists.elim P9 ?_; clear P9; intro n9 P9; obtain ⟨e9, e9b⟩ := P9; subst e9; subst e9b; (try dsimp only); (try k_fold))))) | ((with_reducible show wpAny _ _ (PySem.call (Value.ref 325) _) _ _ _); k_dflt ((refine' Call.use ?k1 ?k2 ?k3 ?k4 ?k5 ?k6 (wtree_two ?hf ?ht ?hm ?hp ?hk1 ?hk2) ?k7 ?k8 ?_; (case k1 => k_asm); (case k2 => k_asm); (case k3 => k_asm); (case k4 => k_asm); (case hf => assumption); (case ht => assumption); (case hm => k_mem); (case hp => k_mem); (case hk1 => k_mem); (case hk2 => k_mem); (case k5 => k_asm); (case k6 => exact rfl); (case k7 => ktr_room); (case k8 => ktr_units); intro r9 led9 h9 tk9 F9 N9 P9; obtain ⟨e9, e9b⟩ := P9; replace e9 := e9.symm; subst e9; (try (refine Exists.elim e9b ?_; clear e9b; intro t9 e9b)); subst e9b; (try dsimp only); (try k_fold)))) | ((with_reducible show wpAny _ _ (PySem.call (Value.ref 325) _) _ _ _); k_dflt ((refine' Call.use ?k1 ?k2 ?k3 ?k4 ?k5 ?k6 (wtree_num ?hc ?hm ?hk1 ?hk2) ?k7 ?k8 ?_; (case k1 => k_asm); (case k2 => k_asm); (case k3 => k_asm); (case k4 => k_asm); (case hm => k_mem); (case hc => assumption); (case hk1 => k_mem); (case hk2 => k_mem); (case k5 => k_asm); (case k6 => exact rfl); (case k7 => ktr_room); (case k8 => ktr_units); intro r9 led9 h9 tk9 F9 N9 P9; obtain ⟨e9, e9b⟩ := P9; replace e9 := e9.symm; subst e9; (try (refine Exists.elim e9b ?_; clear e9b; intro t9 e9b)); subst e9b; (try dsimp only); (try k_fold)))) | ((with_reducible show wpAny _ _ (PySem.call (Value.ref 276) _) _ _ _); k_dflt ((refine' Call.use ?k1 ?k2 ?k3 ?k4 ?k5 ?k6 (parts_two ?hm) ?k7 ?k8 ?_; (case k1 => k_asm); (case k2 => k_asm); (case k3 => k_asm); (case k4 => k_asm); (case hm => k_mem); (case k5 => k_asm); (case k6 => exact rfl); (case k7 => ktr_room); (case k8 => ktr_units); intro r9 led9 h9 tk9 F9 N9 P9; obtain ⟨pl9, k9, e9, e9b, l9⟩ := P9; subst e9; subst e9b; (try simp only [AllLt] at l9); (try dsimp only); (try k_fold)))) | ((with_reducible show wpAny _ _ (PySem.call (Value.ref 276) _) _ _ _); k_dflt ((refine' Call.use ?k1 ?k2 ?k3 ?k4 ?k5 ?k6 (parts_num ?hm) ?k7 ?k8 ?_; (case k1 => k_asm); (case k2 => k_asm); (case k3 => k_asm); (case k4 => k_asm); (case hm => k_mem); (case k5 => k_asm); (case k6 => exact rfl); (case k7 => ktr_room); (case k8 => ktr_units); intro r9 led9 h9 tk9 F9 N9 P9; obtain ⟨pl9, k9, e9, e9b, l9⟩ := P9; subst e9; subst e9b; (try simp only [AllLt] at l9); (try dsimp only); (try k_fold)))) | ((with_reducible show wpAny _ _ (PySem.call (Value.ref 276) _) _ _ _); k_dflt ((refine' Call.use ?k1 ?k2 ?k3 ?k4 ?k5 ?k6 (parts_x ?hm) ?k7 ?k8 ?_; (case k1 => k_asm); (case k2 => k_asm); (case k3 => k_asm); (case k4 => k_asm); (case hm => k_mem); (case k5 => k_asm); (case k6 => exact rfl); (case k7 => ktr_room); (case k8 => ktr_units); intro r9 led9 h9 tk9 F9 N9 P9; obtain ⟨pl9, k9, e9, e9b, l9⟩ := P9; subst e9; subst e9b; (try simp only [AllLt] at l9); (try dsimp only); (try k_fold)))) | walk1 | (dsimp only; first | ((with_reducible show wpAny _ _ (PySem.call (Value.ref 325) _) _ _ _); k_dflt (((rename News _ _ _ _ => N9); replace N9 := news_front2 N9; (refine' Call.use ?k1 ?k2 ?k3 ?k4 ?k5 ?k6 (wtree_x ?hm ?hk1 ?hk2 ?hd ?hdo ?hds ?hal ?hoff) ?k7 ?k8 ?_; (case k1 => k_asm); (case k2 => k_asm); (case k3 => k_asm); (case k4 => k_asm); (case hm => k_mem); (case hk1 => k_mem); (case hk2 => k_mem); (case hd => k_mem); (case hdo => assumption); (case hds => assumption); (case hal => omega); (case hoff => k_all); (case k5 => k_asm); (case k6 => exact rfl); (case k7 => ktr_room); (case k8 => ktr_units); intro r9 led9 h9 tk9 F9 N9 P9; refine Exists.elim P9 ?_; clear P9; intro t9 P9; refine Exists.elim P9 ?_; clear P9; intro n9 P9; obtain ⟨e9, e9b⟩ := P9; subst e9; subst e9b; (try dsimp only); (try k_fold))))) | ((with_reducible show wpAny _ _ (PySem.call (Value.ref 325) _) _ _ _); k_dflt ((refine' Call.use ?k1 ?k2 ?k3 ?k4 ?k5 ?k6 (wtree_two ?hf ?ht ?hm ?hp ?hk1 ?hk2) ?k7 ?k8 ?_; (case k1 => k_asm); (case k2 => k_asm); (case k3 => k_asm); (case k4 => k_asm); (case hf => assumption); (case ht => assumption); (case hm => k_mem); (case hp => k_mem); (case hk1 => k_mem); (case hk2 => k_mem); (case k5 => k_asm); (case k6 => exact rfl); (case k7 => ktr_room); (case k8 => ktr_units); intro r9 led9 h9 tk9 F9 N9 P9; obtain ⟨e9, e9b⟩ := P9; replace e9 := e9.symm; subst e9; (try (refine Exists.elim e9b ?_; clear e9b; intro t9 e9b)); subst e9b; (try dsimp only); (try k_fold)))) | ((with_reducible show wpAny _ _ (PySem.call (Value.ref 325) _) _ _ _); k_dflt ((refine' Call.use ?k1 ?k2 ?k3 ?k4 ?k5 ?k6 (wtree_num ?hc ?hm ?hk1 ?hk2) ?k7 ?k8 ?_; (case k1 => k_asm); (case k2 => k_asm); (case k3 => k_asm); (case k4 => k_asm); (case hm => k_mem); (case hc => assumption); (case hk1 => k_mem); (case hk2 => k_mem); (case k5 => k_asm); (case k6 => exact rfl); (case k7 => ktr_room); (case k8 => ktr_units); intro r9 led9 h9 tk9 F9 N9 P9; obtain ⟨e9, e9b⟩ := P9; replace e9 := e9.symm; subst e9; (try (refine Exists.elim e9b ?_; clear e9b; intro t9 e9b)); subst e9b; (try dsimp only); (try k_fold)))) | ((with_reducible show wpAny _ _ (PySem.call (Value.ref 276) _) _ _ _); k_dflt ((refine' Call.use ?k1 ?k2 ?k3 ?k4 ?k5 ?k6 (parts_two ?hm) ?k7 ?k8 ?_; (case k1 => k_asm); (case k2 => k_asm); (case k3 => k_asm); (case k4 => k_asm); (case hm => k_mem); (case k5 => k_asm); (case k6 => exact rfl); (case k7 => ktr_room); (case k8 => ktr_units); intro r9 led9 h9 tk9 F9 N9 P9; obtain ⟨pl9, k9, e9, e9b, l9⟩ := P9; subst e9; subst e9b; (try simp only [AllLt] at l9); (try dsimp only); (try k_fold)))) | ((with_reducible show wpAny _ _ (PySem.call (Value.ref 276) _) _ _ _); k_dflt ((refine' Call.use ?k1 ?k2 ?k3 ?k4 ?k5 ?k6 (parts_num ?hm) ?k7 ?k8 ?_; (case k1 => k_asm); (case k2 => k_asm); (case k3 => k_asm); (case k4 => k_asm); (case hm => k_mem); (case k5 => k_asm); (case k6 => exact rfl); (case k7 => ktr_room); (case k8 => ktr_units); intro r9 led9 h9 tk9 F9 N9 P9; obtain ⟨pl9, k9, e9, e9b, l9⟩ := P9; subst e9; subst e9b; (try simp only [AllLt] at l9); (try dsimp only); (try k_fold)))) | ((with_reducible show wpAny _ _ (PySem.call (Value.ref 276) _) _ _ _); k_dflt ((refine' Call.use ?k1 ?k2 ?k3 ?k4 ?k5 ?k6 (parts_x ?hm) ?k7 ?k8 ?_; (case k1 => k_asm); (case k2 => k_asm); (case k3 => k_asm); (case k4 => k_asm); (case hm => k_mem); (case k5 => k_asm); (case k6 => exact rfl); (case k7 => ktr_room); (case k8 => ktr_units); intro r9 led9 h9 tk9 F9 N9 P9; obtain ⟨pl9, k9, e9, e9b, l9⟩ := P9; subst e9; subst e9b; (try simp only [AllLt] at l9); (try dsimp only); (try k_fold)))) | walk1) | (leave1; walk_say "STEP leave1"; try dsimp only) | fail "no step")
          (rename Fr _ _ _ _ => F7)
          (rename News _ _ _ _ => N7)
          ktn_open
          refine' w_pop (rs := rs)  F7 N7 ?subx rfl rfl rfl hsub hW (.snoc hV) hO ?ltx ?b1x ?b2x hd1 hd2 ha1 ?a2x ?a3x
          case subx => tb_start
          all_goals first | k_ne | (simp only [List.length_append, List.length_cons, List.length_nil]; omega) | omega

        · have hvl : (vs.length : Int) = (zs.length : Int) := by rw [hlv]
          have hc : -2147483648 ≤ kk ∧ kk < 2147483648 := by have := hf.1; have := hf.2; omega
          repeat' (first | (k_unfold; (try dsimp only)) | (k_end; wrow_close) | ((with_reducible show wpAny _ _ (PySem.call (Value.ref 325) _) _ _ _); k_dflt (((rename News _ _ _ _ => N9); replace N9 := news_front2 N9; (refine' Call.use ?k1 ?k2 ?k3 ?k4 ?k5 ?k6 (wtree_x ?hm ?hk1 ?hk2 ?hd ?hdo ?hds ?hal ?hoff) ?k7 ?k8 ?_; (case k1 => k_asm); (case k2 => k_asm); (case k3 => k_asm); (case k4 => k_asm); (case hm => k_mem); (case hk1 => k_mem); (case hk2 => k_mem); (case hd => k_mem); (case hdo => assumption); (case hds => assumption); (case hal => omega); (case hoff => k_all); (case k5 => k_asm); (case k6 => exact rfl); (case k7 => ktr_room); (case k8 => ktr_units); intro r9 led9 h9 tk9 F9 N9 P9; refine Exists.elim P9 ?_; clear P9; intro t9 P9; refine Exists.elim P9 ?_; clear P9; intro n9 P9; obtain ⟨e9, e9b⟩ := P9; subst e9; subst e9b; (try dsimp only); (try k_fold))))) | ((with_reducible show wpAny _ _ (PySem.call (Value.ref 325) _) _ _ _); k_dflt ((refine' Call.use ?k1 ?k2 ?k3 ?k4 ?k5 ?k6 (wtree_two ?hf ?ht ?hm ?hp ?hk1 ?hk2) ?k7 ?k8 ?_; (case k1 => k_asm); (case k2 => k_asm); (case k3 => k_asm); (case k4 => k_asm); (case hf => assumption); (case ht => assumption); (case hm => k_mem); (case hp => k_mem); (case hk1 => k_mem); (case hk2 => k_mem); (case k5 => k_asm); (case k6 => exact rfl); (case k7 => ktr_room); (case k8 => ktr_units); intro r9 led9 h9 tk9 F9 N9 P9; obtain ⟨e9, e9b⟩ := P9; replace e9 := e9.symm; subst e9; (try (refine Exists.elim e9b ?_; clear e9b; intro t9 e9b)); subst e9b; (try dsimp only); (try k_fold)))) | ((with_reducible show wpAny _ _ (PySem.call (Value.ref 325) _) _ _ _); k_dflt ((refine' Call.use ?k1 ?k2 ?k3 ?k4 ?k5 ?k6 (wtree_num ?hc ?hm ?hk1 ?hk2) ?k7 ?k8 ?_; (case k1 => k_asm); (case k2 => k_asm); (case k3 => k_asm); (case k4 => k_asm); (case hm => k_mem); (case hc => assumption); (case hk1 => k_mem); (case hk2 => k_mem); (case k5 => k_asm); (case k6 => exact rfl); (case k7 => ktr_room); (case k8 => ktr_units); intro r9 led9 h9 tk9 F9 N9 P9; obtain ⟨e9, e9b⟩ := P9; replace e9 := e9.symm; subst e9; (try (refine Exists.elim e9b ?_; clear e9b; intro t9 e9b)); subst e9b; (try dsimp only); (try k_fold)))) | ((with_reducible show wpAny _ _ (PySem.call (Value.ref 276) _) _ _ _); k_dflt ((refine' Call.use ?k1 ?k2 ?k3 ?k4 ?k5 ?k6 (parts_two ?hm) ?k7 ?k8 ?_; (case k1 => k_asm); (case k2 => k_asm); (case k3 => k_asm); (case k4 => k_asm); (case hm => k_mem); (case k5 => k_asm); (case k6 => exact rfl); (case k7 => ktr_room); (case k8 => ktr_units); intro r9 led9 h9 tk9 F9 N9 P9; obtain ⟨pl9, k9, e9, e9b, l9⟩ := P9; subst e9; subst e9b; (try simp only [AllLt] at l9); (try dsimp only); (try k_fold)))) | ((with_reducible show wpAny _ _ (PySem.call (Value.ref 276) _) _ _ _); k_dflt ((refine' Call.use ?k1 ?k2 ?k3 ?k4 ?k5 ?k6 (parts_num ?hm) ?k7 ?k8 ?_; (case k1 => k_asm); (case k2 => k_asm); (case k3 => k_asm); (case k4 => k_asm); (case hm => k_mem); (case k5 => k_asm); (case k6 => exact rfl); (case k7 => ktr_room); (case k8 => ktr_units); intro r9 led9 h9 tk9 F9 N9 P9; obtain ⟨pl9, k9, e9, e9b, l9⟩ := P9; subst e9; subst e9b; (try simp only [AllLt] at l9); (try dsimp only); (try k_fold)))) | ((with_reducible show wpAny _ _ (PySem.call (Value.ref 276) _) _ _ _); k_dflt ((refine' Call.use ?k1 ?k2 ?k3 ?k4 ?k5 ?k6 (parts_x ?hm) ?k7 ?k8 ?_; (case k1 => k_asm); (case k2 => k_asm); (case k3 => k_asm); (case k4 => k_asm); (case hm => k_mem); (case k5 => k_asm); (case k6 => exact rfl); (case k7 => ktr_room); (case k8 => ktr_units); intro r9 led9 h9 tk9 F9 N9 P9; obtain ⟨pl9, k9, e9, e9b, l9⟩ := P9; subst e9; subst e9b; (try simp only [AllLt] at l9); (try dsimp only); (try k_fold)))) | walk1 | (dsimp only; first | ((with_reducible show wpAny _ _ (PySem.call (Value.ref 325) _) _ _ _); k_dflt (((rename News _ _ _ _ => N9); replace N9 := news_front2 N9; (refine' Call.use ?k1 ?k2 ?k3 ?k4 ?k5 ?k6 (wtree_x ?hm ?hk1 ?hk2 ?hd ?hdo ?hds ?hal ?hoff) ?k7 ?k8 ?_; (case k1 => k_asm); (case k2 => k_asm); (case k3 => k_asm); (case k4 => k_asm); (case hm => k_mem); (case hk1 => k_mem); (case hk2 => k_mem); (case hd => k_mem); (case hdo => assumption); (case hds => assumption); (case hal => omega); (case hoff => k_all); (case k5 => k_asm); (case k6 => exact rfl); (case k7 => ktr_room); (case k8 => ktr_units); intro r9 led9 h9 tk9 F9 N9 P9; refine Exists.elim P9 ?_; clear P9; intro t9 P9; refine Exists.elim P9 ?_; clear P9; intro n9 P9; obtain ⟨e9, e9b⟩ := P9; subst e9; subst e9b; (try dsimp only); (try k_fold))))) | ((with_reducible show wpAny _ _ (PySem.call (Value.ref 325) _) _ _ _); k_dflt ((refine' Call.use ?k1 ?k2 ?k3 ?k4 ?k5 ?k6 (wtree_two ?hf ?ht ?hm ?hp ?hk1 ?hk2) ?k7 ?k8 ?_; (case k1 => k_asm); (case k2 => k_asm); (case k3 => k_asm); (case k4 => k_asm); (case hf => assumption); (case ht => assumption); (case hm => k_mem); (case hp => k_mem); (case hk1 => k_mem); (case hk2 => k_mem); (case k5 => k_asm); (case k6 => exact rfl); (case k7 => ktr_room); (case k8 => ktr_units); intro r9 led9 h9 tk9 F9 N9 P9; obtain ⟨e9, e9b⟩ := P9; replace e9 := e9.symm; subst e9; (try (refine Exists.elim e9b ?_; clear e9b; intro t9 e9b)); subst e9b; (try dsimp only); (try k_fold)))) | ((with_reducible show wpAny _ _ (PySem.call (Value.ref 325) _) _ _ _); k_dflt ((refine' Call.use ?k1 ?k2 ?k3 ?k4 ?k5 ?k6 (wtree_num ?hc ?hm ?hk1 ?hk2) ?k7 ?k8 ?_; (case k1 => k_asm); (case k2 => k_asm); (case k3 => k_asm); (case k4 => k_asm); (case hm => k_mem); (case hc => assumption); (case hk1 => k_mem); (case hk2 => k_mem); (case k5 => k_asm); (case k6 => exact rfl); (case k7 => ktr_room); (case k8 => ktr_units); intro r9 led9 h9 tk9 F9 N9 P9; obtain ⟨e9, e9b⟩ := P9; replace e9 := e9.symm; subst e9; (try (refine Exists.elim e9b ?_; clear e9b; intro t9 e9b)); subst e9b; (try dsimp only); (try k_fold)))) | ((with_reducible show wpAny _ _ (PySem.call (Value.ref 276) _) _ _ _); k_dflt ((refine' Call.use ?k1 ?k2 ?k3 ?k4 ?k5 ?k6 (parts_two ?hm) ?k7 ?k8 ?_; (case k1 => k_asm); (case k2 => k_asm); (case k3 => k_asm); (case k4 => k_asm); (case hm => k_mem); (case k5 => k_asm); (case k6 => exact rfl); (case k7 => ktr_room); (case k8 => ktr_units); intro r9 led9 h9 tk9 F9 N9 P9; obtain ⟨pl9, k9, e9, e9b, l9⟩ := P9; subst e9; subst e9b; (try simp only [AllLt] at l9); (try dsimp only); (try k_fold)))) | ((with_reducible show wpAny _ _ (PySem.call (Value.ref 276) _) _ _ _); k_dflt ((refine' Call.use ?k1 ?k2 ?k3 ?k4 ?k5 ?k6 (parts_num ?hm) ?k7 ?k8 ?_; (case k1 => k_asm); (case k2 => k_asm); (case k3 => k_asm); (case k4 => k_asm); (case hm => k_mem); (case k5 => k_asm); (case k6 => exact rfl); (case k7 => ktr_room); (case k8 => ktr_units); intro r9 led9 h9 tk9 F9 N9 P9; obtain ⟨pl9, k9, e9, e9b, l9⟩ := P9; subst e9; subst e9b; (try simp only [AllLt] at l9); (try dsimp only); (try k_fold)))) | ((with_reducible show wpAny _ _ (PySem.call (Value.ref 276) _) _ _ _); k_dflt ((refine' Call.use ?k1 ?k2 ?k3 ?k4 ?k5 ?k6 (parts_x ?hm) ?k7 ?k8 ?_; (case k1 => k_asm); (case k2 => k_asm); (case k3 => k_asm); (case k4 => k_asm); (case hm => k_mem); (case k5 => k_asm); (case k6 => exact rfl); (case k7 => ktr_room); (case k8 => ktr_units); intro r9 led9 h9 tk9 F9 N9 P9; obtain ⟨pl9, k9, e9, e9b, l9⟩ := P9; subst e9; subst e9b; (try simp only [AllLt] at l9); (try dsimp only); (try k_fold)))) | walk1) | (leave1; walk_say "STEP leave1"; try dsimp only) | fail "no step")
          (rename Fr _ _ _ _ => F7)
          (rename News _ _ _ _ => N7)
          ktn_open
          refine' w_pop (rs := rs) (as := as1) (na := na1) F7 N7 ?subn rfl rfl rfl hsub hW (.snoc hV) hO ?ltn ?b1n ?b2n hd1 hd2 ha1 ?a2n ?a3n
          case subn => tb_start
          all_goals first | k_ne | (simp only [List.length_append, List.length_cons, List.length_nil]; omega) | omega

        · repeat' (first | (k_unfold; (try dsimp only)) | (k_end; wrow_close) | ((with_reducible show wpAny _ _ (PySem.call (Value.ref 325) _) _ _ _); k_dflt (((rename News _ _ _ _ => N9); replace N9 := news_front2 N9; (refine' Call.use ?k1 ?k2 ?k3 ?k4 ?k5 ?k6 (wtree_x ?hm ?hk1 ?hk2 ?hd ?hdo ?hds ?hal ?hoff) ?k7 ?k8 ?_; (case k1 => k_asm); (case k2 => k_asm); (case k3 => k_asm); (case k4 => k_asm); (case hm => k_mem); (case hk1 => k_mem); (case hk2 => k_mem); (case hd => k_mem); (case hdo => assumption); (case hds => assumption); (case hal => omega); (case hoff => k_all); (case k5 => k_asm); (case k6 => exact rfl); (case k7 => ktr_room); (case k8 => ktr_units); intro r9 led9 h9 tk9 F9 N9 P9; refine Exists.elim P9 ?_; clear P9; intro t9 P9; refine Exists.elim P9 ?_; clear P9; intro n9 P9; obtain ⟨e9, e9b⟩ := P9; subst e9; subst e9b; (try dsimp only); (try k_fold))))) | ((with_reducible show wpAny _ _ (PySem.call (Value.ref 325) _) _ _ _); k_dflt ((refine' Call.use ?k1 ?k2 ?k3 ?k4 ?k5 ?k6 (wtree_two ?hf ?ht ?hm ?hp ?hk1 ?hk2) ?k7 ?k8 ?_; (case k1 => k_asm); (case k2 => k_asm); (case k3 => k_asm); (case k4 => k_asm); (case hf => assumption); (case ht => assumption); (case hm => k_mem); (case hp => k_mem); (case hk1 => k_mem); (case hk2 => k_mem); (case k5 => k_asm); (case k6 => exact rfl); (case k7 => ktr_room); (case k8 => ktr_units); intro r9 led9 h9 tk9 F9 N9 P9; obtain ⟨e9, e9b⟩ := P9; replace e9 := e9.symm; subst e9; (try (refine Exists.elim e9b ?_; clear e9b; intro t9 e9b)); subst e9b; (try dsimp only); (try k_fold)))) | ((with_reducible show wpAny _ _ (PySem.call (Value.ref 325) _) _ _ _); k_dflt ((refine' Call.use ?k1 ?k2 ?k3 ?k4 ?k5 ?k6 (wtree_num ?hc ?hm ?hk1 ?hk2) ?k7 ?k8 ?_; (case k1 => k_asm); (case k2 => k_asm); (case k3 => k_asm); (case k4 => k_asm); (case hm => k_mem); (case hc => assumption); (case hk1 => k_mem); (case hk2 => k_mem); (case k5 => k_asm); (case k6 => exact rfl); (case k7 => ktr_room); (case k8 => ktr_units); intro r9 led9 h9 tk9 F9 N9 P9; obtain ⟨e9, e9b⟩ := P9; replace e9 := e9.symm; subst e9; (try (refine Exists.elim e9b ?_; clear e9b; intro t9 e9b)); subst e9b; (try dsimp only); (try k_fold)))) | ((with_reducible show wpAny _ _ (PySem.call (Value.ref 276) _) _ _ _); k_dflt ((refine' Call.use ?k1 ?k2 ?k3 ?k4 ?k5 ?k6 (parts_two ?hm) ?k7 ?k8 ?_; (case k1 => k_asm); (case k2 => k_asm); (case k3 => k_asm); (case k4 => k_asm); (case hm => k_mem); (case k5 => k_asm); (case k6 => exact rfl); (case k7 => ktr_room); (case k8 => ktr_units); intro r9 led9 h9 tk9 F9 N9 P9; obtain ⟨pl9, k9, e9, e9b, l9⟩ := P9; subst e9; subst e9b; (try simp only [AllLt] at l9); (try dsimp only); (try k_fold)))) | ((with_reducible show wpAny _ _ (PySem.call (Value.ref 276) _) _ _ _); k_dflt ((refine' Call.use ?k1 ?k2 ?k3 ?k4 ?k5 ?k6 (parts_num ?hm) ?k7 ?k8 ?_; (case k1 => k_asm); (case k2 => k_asm); (case k3 => k_asm); (case k4 => k_asm); (case hm => k_mem); (case k5 => k_asm); (case k6 => exact rfl); (case k7 => ktr_room); (case k8 => ktr_units); intro r9 led9 h9 tk9 F9 N9 P9; obtain ⟨pl9, k9, e9, e9b, l9⟩ := P9; subst e9; subst e9b; (try simp only [AllLt] at l9); (try dsimp only); (try k_fold)))) | ((with_reducible show wpAny _ _ (PySem.call (Value.ref 276) _) _ _ _); k_dflt ((refine' Call.use ?k1 ?k2 ?k3 ?k4 ?k5 ?k6 (parts_x ?hm) ?k7 ?k8 ?_; (case k1 => k_asm); (case k2 => k_asm); (case k3 => k_asm); (case k4 => k_asm); (case hm => k_mem); (case k5 => k_asm); (case k6 => exact rfl); (case k7 => ktr_room); (case k8 => ktr_units); intro r9 led9 h9 tk9 F9 N9 P9; obtain ⟨pl9, k9, e9, e9b, l9⟩ := P9; subst e9; subst e9b; (try simp only [AllLt] at l9); (try dsimp only); (try k_fold)))) | walk1 | (dsimp only; first | ((with_reducible show wpAny _ _ (PySem.call (Value.ref 325) _) _ _ _); k_dflt (((rename News _ _ _ _ => N9); replace N9 := news_front2 N9; (refine' Call.use ?k1 ?k2 ?k3 ?k4 ?k5 ?k6 (wtree_x ?hm ?hk1 ?hk2 ?hd ?hdo ?hds ?hal ?hoff) ?k7 ?k8 ?_; (case k1 => k_asm); (case k2 => k_asm); (case k3 => k_asm); (case k4 => k_asm); (case hm => k_mem); (case hk1 => k_mem); (case hk2 => k_mem); (case hd => k_mem); (case hdo => assumption); (case hds => assumption); (case hal => omega); (case hoff => k_all); (case k5 => k_asm); (case k6 => exact rfl); (case k7 => ktr_room); (case k8 => ktr_units); intro r9 led9 h9 tk9 F9 N9 P9; refine Exists.elim P9 ?_; clear P9; intro t9 P9; refine Exists.elim P9 ?_; clear P9; intro n9 P9; obtain ⟨e9, e9b⟩ := P9; subst e9; subst e9b; (try dsimp only); (try k_fold))))) | ((with_reducible show wpAny _ _ (PySem.call (Value.ref 325) _) _ _ _); k_dflt ((refine' Call.use ?k1 ?k2 ?k3 ?k4 ?k5 ?k6 (wtree_two ?hf ?ht ?hm ?hp ?hk1 ?hk2) ?k7 ?k8 ?_; (case k1 => k_asm); (case k2 => k_asm); (case k3 => k_asm); (case k4 => k_asm); (case hf => assumption); (case ht => assumption); (case hm => k_mem); (case hp => k_mem); (case hk1 => k_mem); (case hk2 => k_mem); (case k5 => k_asm); (case k6 => exact rfl); (case k7 => ktr_room); (case k8 => ktr_units); intro r9 led9 h9 tk9 F9 N9 P9; obtain ⟨e9, e9b⟩ := P9; replace e9 := e9.symm; subst e9; (try (refine Exists.elim e9b ?_; clear e9b; intro t9 e9b)); subst e9b; (try dsimp only); (try k_fold)))) | ((with_reducible show wpAny _ _ (PySem.call (Value.ref 325) _) _ _ _); k_dflt ((refine' Call.use ?k1 ?k2 ?k3 ?k4 ?k5 ?k6 (wtree_num ?hc ?hm ?hk1 ?hk2) ?k7 ?k8 ?_; (case k1 => k_asm); (case k2 => k_asm); (case k3 => k_asm); (case k4 => k_asm); (case hm => k_mem); (case hc => assumption); (case hk1 => k_mem); (case hk2 => k_mem); (case k5 => k_asm); (case k6 => exact rfl); (case k7 => ktr_room); (case k8 => ktr_units); intro r9 led9 h9 tk9 F9 N9 P9; obtain ⟨e9, e9b⟩ := P9; replace e9 := e9.symm; subst e9; (try (refine Exists.elim e9b ?_; clear e9b; intro t9 e9b)); subst e9b; (try dsimp only); (try k_fold)))) | ((with_reducible show wpAny _ _ (PySem.call (Value.ref 276) _) _ _ _); k_dflt ((refine' Call.use ?k1 ?k2 ?k3 ?k4 ?k5 ?k6 (parts_two ?hm) ?k7 ?k8 ?_; (case k1 => k_asm); (case k2 => k_asm); (case k3 => k_asm); (case k4 => k_asm); (case hm => k_mem); (case k5 => k_asm); (case k6 => exact rfl); (case k7 => ktr_room); (case k8 => ktr_units); intro r9 led9 h9 tk9 F9 N9 P9; obtain ⟨pl9, k9, e9, e9b, l9⟩ := P9; subst e9; subst e9b; (try simp only [AllLt] at l9); (try dsimp only); (try k_fold)))) | ((with_reducible show wpAny _ _ (PySem.call (Value.ref 276) _) _ _ _); k_dflt ((refine' Call.use ?k1 ?k2 ?k3 ?k4 ?k5 ?k6 (parts_num ?hm) ?k7 ?k8 ?_; (case k1 => k_asm); (case k2 => k_asm); (case k3 => k_asm); (case k4 => k_asm); (case hm => k_mem); (case k5 => k_asm); (case k6 => exact rfl); (case k7 => ktr_room); (case k8 => ktr_units); intro r9 led9 h9 tk9 F9 N9 P9; obtain ⟨pl9, k9, e9, e9b, l9⟩ := P9; subst e9; subst e9b; (try simp only [AllLt] at l9); (try dsimp only); (try k_fold)))) | ((with_reducible show wpAny _ _ (PySem.call (Value.ref 276) _) _ _ _); k_dflt ((refine' Call.use ?k1 ?k2 ?k3 ?k4 ?k5 ?k6 (parts_x ?hm) ?k7 ?k8 ?_; (case k1 => k_asm); (case k2 => k_asm); (case k3 => k_asm); (case k4 => k_asm); (case hm => k_mem); (case k5 => k_asm); (case k6 => exact rfl); (case k7 => ktr_room); (case k8 => ktr_units); intro r9 led9 h9 tk9 F9 N9 P9; obtain ⟨pl9, k9, e9, e9b, l9⟩ := P9; subst e9; subst e9b; (try simp only [AllLt] at l9); (try dsimp only); (try k_fold)))) | walk1) | (leave1; walk_say "STEP leave1"; try dsimp only) | fail "no step")
          (rename Fr _ _ _ _ => F7)
          (rename News _ _ _ _ => N7)
          ktn_open
          refine' w_push (as := as1) (na := na1) t3 (vl := vl) F7 N7 ?subw rfl rfl rfl hsub hW hm hA hB hV ⟨hf, hO⟩ hn hb1 hb2 hd1 hd2 ha1 ha2 ha3 ?cw
          case subw => tb_start
          all_goals first | k_ne | (refine ⟨?_, ?_, ?_, ?_, ?_, ?_⟩ <;> k_ne)

end PartW5
section PartA1
local macro_rules | `(tactic| walk_at "call type:dict") => `(tactic| (k_here; k_dflt (refine' dict_oneK ?F ?N ?b ?l ?t ?a ?_; (case F => k_asm); (case N => k_asm); (case b => exact TopRead.nolimit (by k_asm)); (case l => k_mem); (case t => k_mem); (case a => rfl); intro d' o' h' tk' F' N' l1 lo' hd' hf'; (try k_lt l1); (try k_sweep))))
local macro_rules | `(tactic| walk_at "call ref") => `(tactic| (k_here; k_dflt (refine' call_cls ?k1 ?k2 ?k3 ?k4 ?k5 ?k6 ?_; (case k1 => k_asm); (case k2 => k_asm); (case k3 => k_asm); (case k4 => k_is); (case k5 => k_is); (case k6 => k_is); k_whole; intro x' d' h' F' N' l1 l2; (try k_lt l1); (try k_lt2 l2); (try k_sweep); (refine' code_def ?k1 ?k2 ?k3 ?k4 ?k5 ?kA ?kF ?kK ?k6 ?k7 ?k8 ?k9 ?kB ?_ ?c2 ?c3 ?c4 ?c5; (case kA => exact rfl); (case kF => exact rfl); (case kK => first | exact rfl | assumption); (case k1 => k_asm); (case k2 => k_asm); (case k3 => k_asm); (case k4 => k_asm); (case k5 => k_asm); (case k6 => k_is); (case k7 => k_is); (case k8 => ktr_room); (case k9 => first | exact BindsTo.of_eq rfl | exact binds_K (by k_in) rfl (by k_is) rfl rfl rfl); (case c5 => decide); (case kB => exact locs rfl); (case c2 => exact rfl); (case c3 => exact rfl); (case c4 => exact rfl); k_whole; intro g' L' h' FG' F' N' B' X' T'; (try dsimp only); (try k_fold)))))
local macro_rules | `(tactic| k_all) => `(tactic| first | assumption | exact allLt_ne (by assumption) | (refine' List.forall_mem_cons.mpr ⟨?a, ?b⟩; (case a => k_ne); (case b => k_all)))

theorem at_call {w : World} {mean : ExcName → Option Value} {mg mb : Str → Option Value} {T : Tr} {news : List (Addr × Obj)} {v : Value} {p : Int} {tp : Tok} (R : TrIn news v T) (hT : T.fit p) (hw : T.w ≤ 40000) :
    Call w mean mg mb 433 [v, .int p tp] 20 news fun led r => led = news ∧ ∃ t, r = .int (T.eval p) t := by
  unfold Call
  k_fill
  intro dp un gd cn cs a₁ ccd cl outer A₀ base h₀ L m s Q E B F X N TT hk hd₁ hu hret
  refine wpAny_call ?_
  k_dflt ktr_enter
  k_with_none
  repeat' ((fail_if_success (with_reducible show wpAny _ _ (PySem.call (Value.ref 330) _) _ _ _)); first | (k_unfold; (try dsimp only)) | (k_end; wrow_close) | walk1 | (dsimp only; walk1) | (leave1; walk_say "STEP leave1"; try dsimp only) | fail "no step")
  ktn_open
  k_dflt ((refine' Call.use ?k1 ?k2 ?k3 ?k4 ?k5 ?k6 (worth_call (as := []) ?R ?hT ?hw ?hk1 ?hk2 ?hd ?hdo ?hds ?hal ?hoff) ?k7 ?k8 ?_; (case k1 => k_asm); (case k2 => k_asm); (case k3 => k_asm); (case k4 => k_asm); (case R => tb_rel); (case hT => assumption); (case hw => assumption); (case hk1 => k_mem); (case hk2 => k_mem); (case hd => k_mem); (case hdo => assumption); (case hds => assumption); (case hal => (simp only [List.length_nil]; omega)); (case hoff => k_all); (case k5 => k_asm); (case k6 => exact rfl); (case k7 => ktr_room); (case k8 => ktr_units); intro r9 led9 h9 tk9 F9 N9 P9; obtain ⟨e9, e9b⟩ := P9; replace e9 := e9.symm; subst e9; (try (refine Exists.elim e9b ?_; clear e9b; intro t9 e9b)); subst e9b; (try dsimp only); (try k_fold)))
  k_steps
  (rename Fr _ _ _ _ => F7)
  (rename News _ _ _ _ => N7)
  exact hret _ _ _ _ F7 (fun p hp => N7 p (by first | assumption | (revert p; tb_start))) ⟨rfl, _, rfl⟩
end PartA1
end PartInl
section PartE1
open PySem PySem.W PyProof.Rows PySem.Calls PySem.Spec
section
variable {prog : Program} {w : World} {A : Around} {E : Value → Shared → Prop} {s : Shared} {env : Env} {h₀ : Heap} {body : List Stmt} {Q : Flow → Shared → Prop}
/-- a loop over enumerate(list), by any word -/
theorem enum_loop {xi xv : Str} {pi pv tp : Pos} {kk : Nat} {l : Addr} {vs : List Value} {nn : Nat} {m₀ : Str → Option Value} {newsT news : List (Addr × Obj)} (J : Nat → (Str → Option Value) → List (Addr × Obj) → Prop)
    (hh : A.handled = none) (hxi : env.kindOf xi = some .local) (hxv : env.kindOf xv = some .local) (hp : (env.scope.kind == .class || (env.scope.kind == .module && env.locals != env.globals)) = false)
    (F : Fr h₀ env.locals s.heap m₀) (N₀ : News h₀ env.locals s.heap newsT) (hsub : ∀ p ∈ news, p ∈ newsT) (hkeep : ∀ i m nx, J i m nx → (l, listOf vs.toArray nn) ∈ nx) (hj : J 0 m₀ news)
    (turn : ∀ (i : Nat) t v m₁ nx h tk own, vs[i]? = some v → OwnOff own (nx.map (·.1)) → J i m₁ nx → Fr h₀ env.locals h (fun y => if y = xv then some v else if y = xi then some (.int (i : Int) t) else m₁ y) → News h₀ env.locals h (nx ++ own) →
      wpAny (model prog w) A (execs body env) (InvPostG h₀ env.locals (J (i + 1)) own { s with heap := h, toks := tk } Q) E { s with heap := h, toks := tk })
    (done : ∀ m₁ nx h tk, J vs.length m₁ nx → Fr h₀ env.locals h m₁ → News h₀ env.locals h nx → Q .next { s with heap := h, toks := tk }) :
    wpAny (model prog w) A (call (.type "enumerate") [.ref l]) (fun x s₁ => wpAny (model prog w) A (pyIter x) (fun it s₂ => TurnsAt prog w A h₀ env (.Tuple [.Name xi pi, .Name xv pv] kk tp) body Q E it s₂) E s₁) E s := by
  have N : News h₀ env.locals s.heap news := fun p hp => N₀ p (hsub p hp)
  have ht := hsub _ (hkeep _ _ _ hj)
  have hol : s.heap.get? l = some (listOf vs.toArray nn) := (N₀ _ ht).1
  have hl : s.heap.IsList l vs.toArray := ⟨_, hol, rfl, nn, rfl⟩
  have hlt : l < s.heap.objs.size := Heap.lt_size hol
  have hLs : env.locals < s.heap.objs.size := F.ns.lt
  refine call_enumerate_list hl fun h' hE hI hsz hk => ?_
  refine wpAny_pyIter_enum hE ?_
  have hel : l ≠ s.heap.objs.size + 1 := Nat.ne_of_lt (Nat.lt_succ_of_lt hlt)
  have hil : l ≠ s.heap.objs.size := Nat.ne_of_lt hlt
  have W := KTurns.ofWalksU (elts := [.Name xi pi, .Name xv pv]) (k := kk) (pos := tp) (WalksT.enumerate (prog := prog) (w := w) hh (s.heap.objs.size + 1) s.heap.objs.size l (Nat.succ_ne_self _) hel hil vs.toArray).toU
  rw [show vs.toArray.size = vs.length from List.size_toArray] at W
  have n0 : ∀ b, s.heap.objs.size ≤ b → h₀.get? b = none := fun b hb => ktu_new F hb
  refine ⟨_, _, _, vs.length, _, _, _, m₀, news, J, rfl, W, ?_, ?_, ?_, ⟨⟨_, hE⟩, hI, hl.at fun o e => hk _ _ e⟩, F.keeps hk, N.grown hk, hj, ?_, ?_⟩
  · intro hm
    simp only [List.mem_cons, List.not_mem_nil, or_false] at hm
    rcases hm with e | e | e
    · exact Nat.ne_of_lt (Nat.lt_succ_of_lt hLs) e
    · exact Nat.ne_of_lt hLs e
    · exact (N₀ _ ht).2.1 e.symm
  · intro b hb
    simp only [List.mem_cons, List.not_mem_nil, or_false] at hb
    rcases hb with rfl | rfl
    · exact n0 _ (Nat.le_succ _)
    · exact n0 _ (Nat.le_refl _)
  · intro p hp hI
    have hlp := Heap.lt_size (N p hp).1
    simp only [List.mem_cons, List.not_mem_nil, or_false] at hI
    rcases hI with e | e
    · exact Nat.ne_of_lt (Nat.lt_succ_of_lt hlp) e
    · exact Nat.ne_of_lt hlp e
  · rintro i v m₁ nx h1 tk1 own hi ⟨T, vals, rfl, ⟨t, x, hx, rfl⟩, hT⟩ hJ hoff hown hget hfp hst F₁ N₁
    obtain ⟨⟨old, hoE⟩, ⟨oI, hoI, _⟩, ⟨oL, hoL, _⟩⟩ := id hst
    have hEown := hfp _ (.head _) (n0 _ (Nat.le_succ _)) _ hoE
    have hIown := hfp _ (.tail _ (.head _)) (n0 _ (Nat.le_refl _)) _ hoI
    have hlnx := hkeep _ _ _ hJ
    have hlh1 : h1.get? l = some (listOf vs.toArray nn) := (N₁ _ (List.mem_append.mpr (.inr hlnx))).1
    have hflt : ∀ p ∈ own.filter (fun p => decide (@Ne Nat p.1 l)), p ∈ own ∧ p.1 ≠ l := fun p hp => ⟨(List.mem_filter.mp hp).1, of_decide_eq_true (List.mem_filter.mp hp).2⟩
    have hsep : OwnOff (own.filter (fun p => decide (@Ne Nat p.1 l))) (nx.map (·.1)) := by
      intro p hp b hb e
      obtain ⟨q, hq, rfl⟩ := List.mem_map.mp hb
      have h2 := hown p (hflt p hp).1
      simp only [List.mem_cons, List.not_mem_nil, or_false] at h2
      rcases h2 with h2 | h2 | h2
      · exact hoff q hq (by rw [← e, h2]; simp)
      · exact hoff q hq (by rw [← e, h2]; simp)
      · exact (hflt p hp).2 h2
    refine kcp_assign (m := m₁) hh hT hxi hxv hp F₁.ns fun h2 tk2 hns hk2 => ?_
    have hL₀ : h₀.get? env.locals = none := Heap.get?_none_of_le F₁.above
    have F₂ : Fr h₀ env.locals h2 (fun y => if y = xv then some x else if y = xi then some (.int (i : Int) t) else m₁ y) :=
      ⟨hns, fun b o e => hk2 b o (fun q => by rw [q, hL₀] at e; cases e) (F₁.keep b o e), F₁.above⟩
    have N₂ : News h₀ env.locals h2 (nx ++ own.filter (fun p => decide (@Ne Nat p.1 l))) := fun p hp => by
      have hp' := N₁ p ((List.mem_append.mp hp).elim (fun h => List.mem_append.mpr (.inr h)) fun h => List.mem_append.mpr (.inl (hflt p h).1))
      exact ⟨hk2 _ _ hp'.2.1 hp'.1, hp'.2⟩
    have hP' : vs[i]? = some x := by simpa using hx
    refine wpAny_mono (turn i t x m₁ nx h2 tk2 _ hP' hsep hJ F₂ N₂) (fun f s₂ p => ?_) fun _ _ e => e
    have fin : InvEndG h₀ env.locals (J (i + 1)) (own.filter (fun p => decide (@Ne Nat p.1 l))) { s with heap := h2, toks := tk2 } s₂ → LoopStepU h₀ env.locals [s.heap.objs.size + 1, s.heap.objs.size] own (J (i + 1)) { s with heap := h1, toks := tk1 } .next s₂ := by
      rintro ⟨h', tk, m', news', nx', e, F', N', hn, ho, ha, hm⟩
      have hin : ∀ p ∈ own, p.1 ≠ l → p ∈ own.filter (fun p => decide (@Ne Nat p.1 l)) := fun p hp hq => List.mem_filter.mpr ⟨hp, decide_eq_true hq⟩
      refine ⟨rfl, h', tk, m', nx', e, F', fun p hp => ?_, fun p hp hq => ?_, hm⟩
      · rcases List.mem_append.mp hp with hp | hp
        · by_cases hq : p.1 = l
          · have h3 := hget p hp
            rw [hq, hlh1] at h3
            have h4 : p = (l, listOf vs.toArray nn) := Prod.ext hq (Option.some.inj h3).symm
            rw [h4]
            exact N' _ (hn _ (hkeep _ _ _ hm))
          · exact N' p (ho p (hin p hp hq))
        · exact N' p (hn p hp)
      · simp only [List.mem_cons, List.not_mem_nil, or_false] at hq
        rcases hq with hq | hq
        · exact ha _ (hin _ hEown (Ne.symm hel)) p.1 (List.mem_map.mpr ⟨p, hp, rfl⟩) hq.symm
        · exact ha _ (hin _ hIown (Ne.symm hil)) p.1 (List.mem_map.mpr ⟨p, hp, rfl⟩) hq.symm
    cases f with
    | ret v => exact .ret p
    | brk => exact .brk p
    | next => exact .next (fin p)
    | cont => exact .cont (fin p)
  · rintro h1 tk m' nx F' N' _ hJ
    exact done m' nx h1 tk hJ F' N'
end
end PartE1
section PartE2
/-- the sum of the row's numbers, each by a weight -/
def S (φ : Nat → Int) : List Int → Int
  | [] => 0
  | n :: r => n * φ 0 + S (fun i => φ (i + 1)) r
theorem S_set {c : Int} : ∀ {ns : List Int} {φ : Nat → Int} {k : Nat}, k < ns.length → S φ (ns.set k (ns.getD k 0 + c)) = S φ ns + c * φ k
  | [], _, _, h => absurd h (Nat.not_lt_zero _)
  | n :: r, φ, 0, _ => by
    simp only [List.set_cons_zero, S, List.getD_cons_zero]; grind
  | n :: r, φ, k + 1, h => by
    have := S_set (c := c) (ns := r) (φ := fun i => φ (i + 1)) (k := k) (Nat.lt_of_succ_lt_succ h)
    simp only [List.set_cons_succ, S, List.getD_cons_succ]
    rw [this]; omega
theorem S_take {φ : Nat → Int} : ∀ {ns : List Int} {i : Nat} {n : Int}, ns[i]? = some n → S φ (ns.take (i + 1)) = S φ (ns.take i) + n * φ i
  | [], _, _, h => by simp at h
  | a :: r, 0, n, h => by
    simp at h; subst h
    simp [S]
  | a :: r, i + 1, n, h => by
    have := S_take (φ := fun i => φ (i + 1)) (ns := r) (i := i) (n := n) (by simpa using h)
    simp only [List.take_succ_cons, S]
    rw [this]; omega
theorem S_zero : ∀ {k : Nat} {φ : Nat → Int}, S φ (List.replicate k 0) = 0
  | 0, _ => rfl
  | k + 1, φ => by
    simp only [List.replicate_succ, S]
    rw [S_zero]; omega
theorem S_scale {c : Int} : ∀ {ns : List Int} {φ : Nat → Int}, S (fun i => c * φ i) ns = c * S φ ns
  | [], _ => by simp [S]
  | n :: r, φ => by
    simp only [S]
    rw [S_scale (ns := r) (φ := fun i => φ (i + 1))]; grind
theorem S_congr {φ ψ : Nat → Int} (h : ∀ i, φ i = ψ i) (ns : List Int) : S φ ns = S ψ ns := by
  rw [show φ = ψ from funext h]
def Tr.len : Tr → Nat
  | .x => 2
  | .num _ => 1
  | .add a b => a.len + b.len
  | .sub a b => a.len + b.len
  | .mul a b => a.len + b.len
/-- what a row says of a weight, told by its tree -/
def Tr.form : Tr → (Nat → Int) → Int
  | .x, φ => φ 1
  | .num k, φ => k * φ 0
  | .add a b, φ => a.form φ + b.form φ
  | .sub a b, φ => a.form φ - b.form φ
  | .mul a b, φ => a.form fun i => b.form fun j => φ (i + j)
def Tr.mag : Tr → Int
  | .x => 1
  | .num k => k.natAbs
  | .add a b => a.mag + b.mag
  | .sub a b => a.mag + b.mag
  | .mul a b => a.mag * b.mag
theorem Tr.mag_nn : ∀ T : Tr, 0 ≤ T.mag
  | .x => by decide
  | .num k => by simp only [Tr.mag]; omega
  | .add a b => by have := a.mag_nn; have := b.mag_nn; simp only [Tr.mag]; omega
  | .sub a b => by have := a.mag_nn; have := b.mag_nn; simp only [Tr.mag]; omega
  | .mul a b => Int.mul_nonneg a.mag_nn b.mag_nn
theorem abs_le_mul {a b x y : Int} (h1 : -a ≤ x) (h2 : x ≤ a) (h3 : -b ≤ y) (h4 : y ≤ b) : -(a * b) ≤ x * y ∧ x * y ≤ a * b := by
  have ha : 0 ≤ a := by omega
  have hb : 0 ≤ b := by omega
  have e : (x * y).natAbs ≤ (a * b).natAbs := by
    rw [Int.natAbs_mul, Int.natAbs_mul]
    exact Nat.mul_le_mul (by omega) (by omega)
  have h0 := Int.mul_nonneg ha hb
  omega
theorem Tr.form_le : ∀ (T : Tr) (φ : Nat → Int) (B : Int), (∀ i, -B ≤ φ i ∧ φ i ≤ B) → -(T.mag * B) ≤ T.form φ ∧ T.form φ ≤ T.mag * B
  | .x, φ, B, h => by have := h 1; simp only [Tr.mag, Tr.form]; omega
  | .num k, φ, B, h => by
    have := h 0
    simp only [Tr.mag, Tr.form]
    exact abs_le_mul (by omega) (by omega) this.1 this.2
  | .add a b, φ, B, h => by
    have h1 := a.form_le φ B h
    have h2 := b.form_le φ B h
    simp only [Tr.mag, Tr.form, Int.add_mul]
    omega
  | .sub a b, φ, B, h => by
    have h1 := a.form_le φ B h
    have h2 := b.form_le φ B h
    simp only [Tr.mag, Tr.form, Int.add_mul]
    omega
  | .mul a b, φ, B, h => by
    have h1 := a.form_le (fun i => b.form fun j => φ (i + j)) (b.mag * B) (fun i => b.form_le _ B fun j => h _)
    simp only [Tr.mag, Tr.form, Int.mul_assoc]
    exact h1
theorem S_delta : ∀ {ns : List Int} {k : Nat}, S (fun i => if i = k then 1 else 0) ns = ns.getD k 0
  | [], _ => by simp [S]
  | n :: r, 0 => by
    have : S (fun i => if i + 1 = 0 then 1 else 0) r = S (fun _ => (0 : Int) * 0) r := S_congr (fun i => by simp) r
    simp only [S, List.getD_cons_zero]
    rw [this, S_scale]; simp
  | n :: r, k + 1 => by
    have : S (fun i => if i + 1 = k + 1 then 1 else 0) r = S (fun i => if i = k then 1 else 0) r := S_congr (fun i => by simp) r
    simp only [S, List.getD_cons_succ]
    rw [this, S_delta]; simp
/-- each number of the row -/
theorem row_le {T : Tr} {ns : List Int} (h : ∀ φ, S φ ns = T.form φ) (k : Nat) : -T.mag ≤ ns.getD k 0 ∧ ns.getD k 0 ≤ T.mag := by
  have := T.form_le (fun i => if i = k then 1 else 0) 1 (fun i => by by_cases e : i = k <;> simp [e])
  rw [← h, S_delta] at this
  omega
theorem Tr.leaves_pos : ∀ T : Tr, 1 ≤ T.leaves
  | .x => Nat.le_refl _
  | .num _ => Nat.le_refl _
  | .add a b => by have := a.leaves_pos; simp only [Tr.leaves]; omega
  | .sub a b => by have := a.leaves_pos; simp only [Tr.leaves]; omega
  | .mul a b => by have := a.leaves_pos; simp only [Tr.leaves]; omega
theorem Tr.len_le : ∀ T : Tr, T.len ≤ 2 * T.leaves
  | .x => Nat.le_refl _
  | .num _ => by simp [Tr.len, Tr.leaves]
  | .add a b => by have := a.len_le; have := b.len_le; simp only [Tr.len, Tr.leaves]; omega
  | .sub a b => by have := a.len_le; have := b.len_le; simp only [Tr.len, Tr.leaves]; omega
  | .mul a b => by have := a.len_le; have := b.len_le; simp only [Tr.len, Tr.leaves]; omega
theorem pow5 (n : Nat) : (1 : Int) ≤ 5 ^ n := by
  induction n with
  | zero => decide
  | succ n ih => rw [Int.pow_succ]; omega
theorem pow5_pos {n : Nat} (h : 1 ≤ n) : (5 : Int) ≤ 5 ^ n := by
  obtain ⟨m, rfl⟩ : ∃ m, n = m + 1 := ⟨n - 1, by omega⟩
  have := pow5 m
  rw [Int.pow_succ]; omega
theorem add_le_mul5 {x y : Int} (h1 : 5 ≤ x) (h2 : 5 ≤ y) : x + y ≤ x * y := by
  have := Int.mul_le_mul_of_nonneg_left (show (5 : Int) ≤ y from h2) (show 0 ≤ x by omega)
  have := Int.mul_le_mul_of_nonneg_right (show (5 : Int) ≤ x from h1) (show 0 ≤ y by omega)
  omega
theorem Tr.mag_le : ∀ {T : Tr}, T.ok → T.mag ≤ 5 ^ T.leaves
  | .x, _ => by decide
  | .num k, h => by
    have h1 := h.1
    have h2 := h.2
    simp only [Tr.mag, Tr.leaves]; omega
  | .add a b, h => by
    have h1 := Tr.mag_le h.1
    have h2 := Tr.mag_le h.2
    simp only [Tr.mag, Tr.leaves, Int.pow_add]
    have := add_le_mul5 (pow5_pos a.leaves_pos) (pow5_pos b.leaves_pos)
    omega
  | .sub a b, h => by
    have h1 := Tr.mag_le h.1
    have h2 := Tr.mag_le h.2
    simp only [Tr.mag, Tr.leaves, Int.pow_add]
    have := add_le_mul5 (pow5_pos a.leaves_pos) (pow5_pos b.leaves_pos)
    omega
  | .mul a b, h => by
    have h1 := Tr.mag_le h.1
    have h2 := Tr.mag_le h.2
    simp only [Tr.mag, Tr.leaves, Int.pow_add]
    exact Int.mul_le_mul h1 h2 b.mag_nn (by have := pow5 a.leaves; omega)
theorem pow5_mono {a b : Nat} (h : a ≤ b) : (5 : Int) ^ a ≤ 5 ^ b := by
  obtain ⟨c, rfl⟩ := Nat.le.dest h
  have h1 := pow5 a
  have h2 := pow5 c
  rw [Int.pow_add]
  have := Int.mul_le_mul_of_nonneg_left h2 (show (0 : Int) ≤ 5 ^ a by omega)
  omega
theorem Tr.mag_fits {T : Tr} (h : T.ok) (hl : T.leaves ≤ 20) : T.mag ≤ 95367431640625 := by
  have h1 := T.mag_le h
  have h2 := pow5_mono hl
  have h3 : (5 : Int) ^ 20 = 95367431640625 := by decide
  omega
def JR (fd l2 a : Addr) (y4 y5 : Str) (v4 v5 : Value) (rest : List (Addr × Obj)) (len : Nat) (g : (Nat → Int) → Int) (m : Str → Option Value) (nx : List (Addr × Obj)) : Prop :=
  ∃ (fs : List Value) (ns : List Int) (nf : Nat), nx = (fd, listOf fs.toArray nf) :: rest ∧ m (Str.ofString "found") = some (.ref fd) ∧ m (Str.ofString "other") = some (.ref l2) ∧ m (Str.ofString "tree") = some (.ref a) ∧ m y4 = some v4 ∧ m y5 = some v5 ∧
    IntsAre fs ns ∧ ns.length = len ∧ ∀ φ, S φ ns = g φ
theorem JR.fin {h₀ h' : Heap} {L fd l2 a : Addr} {y4 y5 : Str} {v4 v5 : Value} {rest own all : List (Addr × Obj)} {len : Nat} {g : (Nat → Int) → Int} {m' : Str → Option Value} {fs : List Value} {ns : List Int} {nf tk : Nat} {s₁ : Shared}
    (F : Fr h₀ L h' m') (N : News h₀ L h' all) (sub : ∀ p ∈ (fd, listOf fs.toArray nf) :: rest, p ∈ all) (sub2 : ∀ p ∈ own, p ∈ all) (h1 : m' (Str.ofString "found") = some (.ref fd)) (h2 : m' (Str.ofString "other") = some (.ref l2)) (h3 : m' (Str.ofString "tree") = some (.ref a)) (h4 : m' y4 = some v4) (h5 : m' y5 = some v5)
    (hi : IntsAre fs ns) (hl : ns.length = len) (hg : ∀ φ, S φ ns = g φ) (hoff : OwnOff own (fd :: rest.map (·.1))) :
    InvEndG h₀ L (JR fd l2 a y4 y5 v4 v5 rest len g) own s₁ { s₁ with heap := h', toks := tk } :=
  ⟨h', tk, m', _, (fd, listOf fs.toArray nf) :: rest, rfl, F, N, sub, sub2, hoff, fs, ns, nf, rfl, h1, h2, h3, h4, h5, hi, hl, hg⟩
theorem ints_get : ∀ {vs : List Value} {ns : List Int} {i : Nat} {v : Value}, IntsAre vs ns → vs[i]? = some v → ∃ c t, v = .int c t ∧ ns[i]? = some c
  | _, _, _, _, .nil, h => by simp at h
  | _, _, 0, _, .cons n t _, h => by simp at h; exact ⟨n, t, h.symm, by simp⟩
  | _, _, i + 1, _, .cons n t r, h => by
    obtain ⟨c, t', e, e'⟩ := ints_get (i := i) r (by simpa using h)
    exact ⟨c, t', e, by simpa using e'⟩
theorem pin5_eq {y₁ y₂ y₃ y₄ y₅ : Str} {m : Str → Option Value} {v₁ v₂ v₃ v₄ v₅ : Value} (h1 : m y₁ = some v₁) (h2 : m y₂ = some v₂) (h3 : m y₃ = some v₃) (h4 : m y₄ = some v₄) (h5 : m y₅ = some v₅) :
    (fun z => if z = y₁ then some v₁ else if z = y₂ then some v₂ else if z = y₃ then some v₃ else if z = y₄ then some v₄ else if z = y₅ then some v₅ else m z) = m := by
  funext z
  by_cases b : z = y₁
  · rw [if_pos b, b, h1]
  rw [if_neg b]
  by_cases c : z = y₂
  · rw [if_pos c, c, h2]
  rw [if_neg c]
  by_cases d : z = y₃
  · rw [if_pos d, d, h3]
  rw [if_neg d]
  by_cases e : z = y₄
  · rw [if_pos e, e, h4]
  rw [if_neg e]
  by_cases f : z = y₅
  · rw [if_pos f, f, h5]
  rw [if_neg f]
section
variable {prog : Program} {w : World} {A : Around} {E : Value → Shared → Prop} {s : Shared} {env : Env} {h₀ : Heap} {body : List Stmt} {Q : Flow → Shared → Prop}
theorem row_loop {xi xv : Str} {pi pv tp : Pos} {kk : Nat} {l fd l2 a : Addr} {y4 y5 : Str} {v4 v5 : Value} {vs fs₀ : List Value} {nsv ns₀ : List Int} {nn nf₀ len : Nat} {m₀ : Str → Option Value} {newsT rest : List (Addr × Obj)} (G : Nat → (Nat → Int) → Int)
    (hh : A.handled = none) (hxi : env.kindOf xi = some .local) (hxv : env.kindOf xv = some .local) (hp : (env.scope.kind == .class || (env.scope.kind == .module && env.locals != env.globals)) = false)
    (F : Fr h₀ env.locals s.heap m₀) (N₀ : News h₀ env.locals s.heap newsT) (hsub : ∀ p ∈ (fd, listOf fs₀.toArray nf₀) :: rest, p ∈ newsT) (hl : (l, listOf vs.toArray nn) ∈ rest)
    (h1 : m₀ (Str.ofString "found") = some (.ref fd)) (h2 : m₀ (Str.ofString "other") = some (.ref l2)) (h3 : m₀ (Str.ofString "tree") = some (.ref a)) (h4 : m₀ y4 = some v4) (h5 : m₀ y5 = some v5)
    (hvs : IntsAre vs nsv) (hvb : ∀ k, -95367431640625 ≤ nsv.getD k 0 ∧ nsv.getD k 0 ≤ 95367431640625) (hi : IntsAre fs₀ ns₀) (hlen : ns₀.length = len) (hG : ∀ φ, S φ ns₀ = G 0 φ)
    (turn : ∀ (i : Nat) (t : Tok) (c : Int) (tc : Tok) (m₁ : Str → Option Value) (fs : List Value) (ns : List Int) (nf : Nat) (h : Heap) (tk : Nat) (own : List (Addr × Obj)), nsv[i]? = some c → i < nsv.length → -95367431640625 ≤ c → c ≤ 95367431640625 → OwnOff own (fd :: rest.map (·.1)) → IntsAre fs ns → ns.length = len → (∀ φ, S φ ns = G i φ) →
      Fr h₀ env.locals h (fun y => if y = xv then some (.int c tc) else if y = xi then some (.int (i : Int) t) else if y = Str.ofString "found" then some (.ref fd) else if y = Str.ofString "other" then some (.ref l2) else if y = Str.ofString "tree" then some (.ref a) else if y = y4 then some v4 else if y = y5 then some v5 else m₁ y) →
      News h₀ env.locals h ((fd, listOf fs.toArray nf) :: (rest ++ own)) →
      wpAny (model prog w) A (execs body env) (InvPostG h₀ env.locals (JR fd l2 a y4 y5 v4 v5 rest len (G (i + 1))) own { s with heap := h, toks := tk } Q) E { s with heap := h, toks := tk })
    (done : ∀ (m₁ : Str → Option Value) (fs : List Value) (ns : List Int) (nf : Nat) (h : Heap) (tk : Nat), IntsAre fs ns → ns.length = len → (∀ φ, S φ ns = G nsv.length φ) →
      Fr h₀ env.locals h (fun y => if y = Str.ofString "found" then some (.ref fd) else if y = Str.ofString "other" then some (.ref l2) else if y = Str.ofString "tree" then some (.ref a) else if y = y4 then some v4 else if y = y5 then some v5 else m₁ y) →
      News h₀ env.locals h ((fd, listOf fs.toArray nf) :: rest) → Q .next { s with heap := h, toks := tk }) :
    wpAny (model prog w) A (call (.type "enumerate") [.ref l]) (fun x s₁ => wpAny (model prog w) A (pyIter x) (fun it s₂ => TurnsAt prog w A h₀ env (.Tuple [.Name xi pi, .Name xv pv] kk tp) body Q E it s₂) E s₁) E s := by
  refine enum_loop (vs := vs) (nn := nn) (newsT := newsT) (news := (fd, listOf fs₀.toArray nf₀) :: rest) (fun i => JR fd l2 a y4 y5 v4 v5 rest len (G i)) hh hxi hxv hp F N₀ hsub ?_ ⟨fs₀, ns₀, nf₀, rfl, h1, h2, h3, h4, h5, hi, hlen, hG⟩ ?_ ?_
  · rintro i m nx ⟨fs, ns, nf, rfl, _⟩
    exact .tail _ hl
  · rintro i t v m₁ nx h tk own hv hoff ⟨fs, ns, nf, rfl, k1, k2, k3, k4, k5, hi', hl', hg'⟩ F' N'
    obtain ⟨c, tc, rfl, hc⟩ := ints_get hvs hv
    have hlt : i < nsv.length := (List.getElem?_eq_some_iff.mp hc).1
    have hb := hvb i
    have e : nsv.getD i 0 = c := by simp [List.getD, hc]
    rw [e] at hb
    rw [← pin5_eq k1 k2 k3 k4 k5] at F'
    exact turn i t c tc m₁ fs ns nf h tk own hc hlt hb.1 hb.2 (by simpa using hoff) hi' hl' hg' F' (by simpa using N')
  · rintro m₁ nx h tk ⟨fs, ns, nf, rfl, k1, k2, k3, k4, k5, hi', hl', hg'⟩ F' N'
    rw [← pin5_eq k1 k2 k3 k4 k5] at F'
    exact done m₁ fs ns nf h tk hi' hl' (by rw [hvs.length] at hg'; exact hg') F' N'
end
theorem ints_zero {t : Tok} : ∀ k : Nat, IntsAre (List.replicate k [Value.int 0 t]).flatten (List.replicate k 0)
  | 0 => .nil
  | k + 1 => by
    rw [List.replicate_succ, List.flatten_cons, List.replicate_succ]
    exact .cons 0 t (ints_zero k)
theorem JR.step {h₀ h' : Heap} {L fd l2 a : Addr} {y4 y5 : Str} {v4 v5 : Value} {rest own all : List (Addr × Obj)} {len : Nat} {g g' : (Nat → Int) → Int} {m' : Str → Option Value} {fs : List Value} {ns : List Int} {nf tk : Nat} {s₁ : Shared} {k c : Int}
    (F : Fr h₀ L h' m') (N : News h₀ L h' all) (hi : IntsAre fs (ns.set k.toNat (ns.getD k.toNat 0 + c))) (sub : ∀ p ∈ (fd, listOf fs.toArray nf) :: rest, p ∈ all) (sub2 : ∀ p ∈ own, p ∈ all) (h1 : m' (Str.ofString "found") = some (.ref fd)) (h2 : m' (Str.ofString "other") = some (.ref l2)) (h3 : m' (Str.ofString "tree") = some (.ref a)) (h4 : m' y4 = some v4) (h5 : m' y5 = some v5)
    (hk : k.toNat < ns.length) (hl : ns.length = len) (hg : ∀ φ, S φ ns = g φ) (hg' : ∀ φ, g' φ = g φ + c * φ k.toNat) (hoff : OwnOff own (fd :: rest.map (·.1))) :
    InvEndG h₀ L (JR fd l2 a y4 y5 v4 v5 rest len g') own s₁ { s₁ with heap := h', toks := tk } :=
  JR.fin F N sub sub2 h1 h2 h3 h4 h5 hi (by rw [List.length_set]; exact hl) (fun φ => by rw [S_set hk, hg, hg']) hoff
end PartE2
local macro_rules | `(tactic| walk_at "ite") => `(tactic| k_dflt (first
  | (refine PySem.W.ite_neg (by first | (intro h7; (try simp only [beq_iff_eq, bne_iff_ne, ne_eq, decide_eq_true_eq, Bool.not_eq_true', decide_eq_false_iff_not, beq_eq_false_iff_ne, Int.reduceSub, Int.reduceToNat, Int.reducePow, Int.reduceMul, Int.reduceNeg] at h7); omega) | (simp (disch := omega) only [decide_eq_true, decide_eq_false]; decide)) ?_)
  | (refine PySem.W.ite_pos (by first | ((try simp only [beq_iff_eq, bne_iff_ne, ne_eq, decide_eq_true_eq, Bool.not_eq_true', decide_eq_false_iff_not, beq_eq_false_iff_ne, Int.reduceSub, Int.reduceToNat, Int.reducePow, Int.reduceMul, Int.reduceNeg]); omega) | (simp (disch := omega) only [decide_eq_true, decide_eq_false]; decide)) ?_)))
section PartE3
local macro_rules | `(tactic| k_all) => `(tactic| first | assumption | exact OwnOff.ne (by assumption) (by k_memK) | exact allLt_ne (by assumption) | (refine off_app ?_ ?_ <;> k_all))
local macro_rules | `(tactic| walk_at "exec For Tuple Call cons nil") => `(tactic| (k_here; (rename Fr _ _ _ _ => lF'); (with_unfolding_all refine' For_turns lF' ?_; k_whole)))
local macro_rules | `(tactic| walk_at "last exec For") => `(tactic| (k_here; (rename Fr _ _ _ _ => lF'); (with_unfolding_all refine' For_turns lF' ?_; k_whole)))
local macro_rules | `(tactic| walk_at "binaryOp Mult ref int") => `(tactic| (k_here; k_dflt (refine' KMa.mul ?F ?N ?l ?lo ?hi ?z ?e ?_; (case F => k_asm); (case N => k_asm); (case l => is_list); (case lo => omega); (case hi => omega); (case z => (simp only [List.length_cons, List.length_nil]; omega)); (case e => rfl)); intro D' h' F' N' l1; (try k_lt l1); (try k_sweep)))
theorem row_call {w : World} {mean : ExcName → Option Value} {mg mb : Str → Option Value} {T : Tr} : ∀ {news : List (Addr × Obj)} {v : Value}, TrIn news v T → T.ok → T.leaves ≤ 20 →
    Call w mean mg mb 414 [v] (T.size + 2) news fun led r => ∃ a ys m, led = (a, listOf ys.toArray m) :: news ∧ r = .ref a ∧ AllLt a news ∧ ∃ ns, IntsAre ys ns ∧ ns.length = T.len ∧ ∀ φ, S φ ns = T.form φ := by
  induction T with
  | x =>
    intro news v R hok hlv
    unfold Call
    k_fill
    intro dp un gd cn cs a₁ ccd cl outer A₀ base h₀ L m s Q E B F X N TT hk hd₁ hu hret
    cases R
    refine wpAny_call ?_
    simp only [Tr.size] at *
    k_dflt ktr_enter
    k_with_none
    k_steps
    (rename Fr _ _ _ _ => F7)
    (rename News _ _ _ _ => N7)
    ktn_open
    exact hret _ ((_, _) :: news) _ _ F7 (fun p hp => N7 p (by revert p; tb_start)) ⟨_, [.int 0 _, .int 1 _], 0, rfl, rfl, by first | assumption | exact allLt_of (by assumption), [0, 1], .cons 0 _ (.cons 1 _ .nil), rfl, fun φ => by simp [S, Tr.form]⟩
  | num k =>
    intro news v R hok hlv
    unfold Call
    k_fill
    intro dp un gd cn cs a₁ ccd cl outer A₀ base h₀ L m s Q E B F X N TT hk hd₁ hu hret
    cases R
    refine wpAny_call ?_
    simp only [Tr.size] at *
    k_dflt ktr_enter
    k_with_none
    k_steps
    (rename Fr _ _ _ _ => F7)
    (rename News _ _ _ _ => N7)
    ktn_open
    exact hret _ ((_, _) :: news) _ _ F7 (fun p hp => N7 p (by revert p; tb_start)) ⟨_, [.int k _], 0, rfl, rfl, by first | assumption | exact allLt_of (by assumption), [k], .cons k _ .nil, rfl, fun φ => by simp [S, Tr.form]⟩
  | add A1 B1 ihA ihB =>
    intro news v R hok hlv
    unfold Call
    k_fill
    intro dp un gd cn cs a₁ ccd cl outer A₀ base h₀ L m s Q E B F X N TT hk hd₁ hu hret
    cases R
    refine wpAny_call ?_
    simp only [Tr.size] at *
    k_dflt ktr_enter
    k_with_none
    obtain ⟨hokA, hokB⟩ := hok
    simp only [Tr.leaves] at hlv
    have hpA := Tr.leaves_pos A1
    have hpB := Tr.leaves_pos B1
    have hqA := Tr.len_le A1
    have hqB := Tr.len_le B1
    k_with "call ref" => first
      | (refine' Call.use ?k1 ?k2 ?k3 ?k4 ?k5 ?k6 (ihA ?R ?hk ?hl) ?k7 ?k8 ?_; (case k1 => k_asm); (case k2 => k_asm); (case k3 => k_asm); (case k4 => k_asm); (case R => tb_rel); (case hk => assumption); (case hl => omega); (case k5 => k_asm); (case k6 => exact rfl); (case k7 => ktr_room); (case k8 => ktr_units); intro r9 led9 h9 tk9 F9 N9 P9; obtain ⟨a8, y8, m8, e9, e9b, l8, n8, i8, g8, f8⟩ := P9; subst e9; subst e9b; (try simp only [AllLt] at l8); (try dsimp only); (try k_fold))
      | (refine' Call.use ?k1 ?k2 ?k3 ?k4 ?k5 ?k6 (ihB ?R ?hk ?hl) ?k7 ?k8 ?_; (case k1 => k_asm); (case k2 => k_asm); (case k3 => k_asm); (case k4 => k_asm); (case R => tb_rel); (case hk => assumption); (case hl => omega); (case k5 => k_asm); (case k6 => exact rfl); (case k7 => ktr_room); (case k8 => ktr_units); intro r9 led9 h9 tk9 F9 N9 P9; obtain ⟨a9, y9, m9, e9, e9b, l9, n9, i9, g9, f9⟩ := P9; subst e9; subst e9b; (try simp only [AllLt] at l9); (try dsimp only); (try k_fold))
    repeat' ((fail_if_success (with_reducible show wpAny _ _ (PySem.call (Value.type "enumerate") _) _ _ _)); first | (k_unfold; (try dsimp only)) | (k_end; wrow_close) | walk1 | (dsimp only; walk1) | (leave1; walk_say "STEP leave1"; try dsimp only) | fail "no step")
    have hmA := Tr.mag_fits hokA (by omega)
    have hmB := Tr.mag_fits hokB (by omega)
    (rename Fr _ _ _ _ => F9)
    (rename News _ _ _ _ => N9)
    ktn_open
    refine' row_loop (y4 := Str.ofString "one") (y5 := Str.ofString "one") (rest := (a9, listOf y9.toArray m9) :: (a8, listOf y8.toArray m8) :: news) (fun i φ => S φ (n8.take i)) rfl rfl rfl rfl F9 N9 ?sub1 ?hl1 rfl rfl rfl rfl rfl i8 ?hvb1 (ints_zero ((n8.length : Int) + (n9.length : Int)).toNat) List.length_replicate (fun φ => by rw [S_zero]; rfl) ?turn1 ?done1
    case sub1 => tb_start
    case hl1 => k_mem
    case hvb1 => intro k9; have := row_le f8 k9; omega
    case turn1 =>
      intro i t c tc m₁ fs ns nf h7 tk7 own hc hlt hb1 hb2 hoff hi hln hg F8 N8
      clear F9 N9
      simp only [List.cons_append] at N8
      simp only [List.map_cons] at hoff
      try k_fold
      repeat' (first | (k_unfold; (try dsimp only)) | (k_end; wrow_close) | walk1 | (dsimp only; walk1) | (leave1; walk_say "STEP leave1"; try dsimp only) | fail "no step")
      (rename Fr _ _ _ _ => F7)
      (rename News _ _ _ _ => N7)
      refine' JR.step F7 N7 (by assumption) (by tb_start) (by tb_start) rfl rfl rfl rfl rfl ?_ hln hg ?_ hoff
      · omega
      · intro φ
        simp only [Int.toNat_natCast]
        exact S_take hc
    case done1 =>
      intro m₁ fs ns nf h7 tk7 hi hln hg F8 N8
      clear F9 N9
      try k_fold
      repeat' ((fail_if_success (with_reducible show wpAny _ _ (PySem.call (Value.type "enumerate") _) _ _ _)); first | (k_unfold; (try dsimp only)) | (k_end; wrow_close) | walk1 | (dsimp only; walk1) | (leave1; walk_say "STEP leave1"; try dsimp only) | fail "no step")
      (rename Fr _ _ _ _ => F9)
      (rename News _ _ _ _ => N9)
      ktn_open
      refine' row_loop (y4 := Str.ofString "found") (y5 := Str.ofString "found") (rest := (a9, listOf y9.toArray m9) :: (a8, listOf y8.toArray m8) :: news) (fun i φ => S φ n8 + S φ (n9.take i)) rfl rfl rfl rfl F9 N9 ?sub2 ?hl2 rfl rfl rfl rfl rfl i9 ?hvb2 hi hln (fun φ => by rw [hg, List.take_length]; simp [S]) ?turn2 ?done2
      case sub2 => tb_start
      case hl2 => k_mem
      case hvb2 => intro k9; have := row_le f9 k9; omega
      case turn2 =>
        intro i t c tc m₁ fs ns nf h7 tk7 own hc hlt hb1 hb2 hoff hi hln hg F8 N8
        clear F9 N9
        simp only [List.cons_append] at N8
        simp only [List.map_cons] at hoff
        try k_fold
        repeat' (first | (k_unfold; (try dsimp only)) | (k_end; wrow_close) | walk1 | (dsimp only; walk1) | (leave1; walk_say "STEP leave1"; try dsimp only) | fail "no step")
        (rename Fr _ _ _ _ => F7)
        (rename News _ _ _ _ => N7)
        refine' JR.step F7 N7 (by assumption) (by tb_start) (by tb_start) rfl rfl rfl rfl rfl ?_ hln hg ?_ hoff
        · omega
        · intro φ
          simp only [Int.toNat_natCast]
          have := S_take (φ := φ) hc; simp only [this]; omega
      case done2 =>
        intro m₁ fs ns nf h7 tk7 hi hln hg F8 N8
        clear F9 N9
        try k_fold
        repeat' (first | (k_unfold; (try dsimp only)) | (k_end; wrow_close) | walk1 | (dsimp only; walk1) | (leave1; walk_say "STEP leave1"; try dsimp only) | fail "no step")
        (rename Fr _ _ _ _ => F7)
        (rename News _ _ _ _ => N7)
        refine' hret _ _ _ _ F7 (fun p hp => N7 p ?_) ⟨_, _, _, rfl, rfl, by assumption, _, hi, ?_, ?_⟩
        · revert p; tb_start
        · simp only [Tr.len]; omega
        · intro φ
          rw [hg, List.take_length, f8, f9]; rfl
  | sub A1 B1 ihA ihB =>
    intro news v R hok hlv
    unfold Call
    k_fill
    intro dp un gd cn cs a₁ ccd cl outer A₀ base h₀ L m s Q E B F X N TT hk hd₁ hu hret
    cases R
    refine wpAny_call ?_
    simp only [Tr.size] at *
    k_dflt ktr_enter
    k_with_none
    obtain ⟨hokA, hokB⟩ := hok
    simp only [Tr.leaves] at hlv
    have hpA := Tr.leaves_pos A1
    have hpB := Tr.leaves_pos B1
    have hqA := Tr.len_le A1
    have hqB := Tr.len_le B1
    k_with "call ref" => first
      | (refine' Call.use ?k1 ?k2 ?k3 ?k4 ?k5 ?k6 (ihA ?R ?hk ?hl) ?k7 ?k8 ?_; (case k1 => k_asm); (case k2 => k_asm); (case k3 => k_asm); (case k4 => k_asm); (case R => tb_rel); (case hk => assumption); (case hl => omega); (case k5 => k_asm); (case k6 => exact rfl); (case k7 => ktr_room); (case k8 => ktr_units); intro r9 led9 h9 tk9 F9 N9 P9; obtain ⟨a8, y8, m8, e9, e9b, l8, n8, i8, g8, f8⟩ := P9; subst e9; subst e9b; (try simp only [AllLt] at l8); (try dsimp only); (try k_fold))
      | (refine' Call.use ?k1 ?k2 ?k3 ?k4 ?k5 ?k6 (ihB ?R ?hk ?hl) ?k7 ?k8 ?_; (case k1 => k_asm); (case k2 => k_asm); (case k3 => k_asm); (case k4 => k_asm); (case R => tb_rel); (case hk => assumption); (case hl => omega); (case k5 => k_asm); (case k6 => exact rfl); (case k7 => ktr_room); (case k8 => ktr_units); intro r9 led9 h9 tk9 F9 N9 P9; obtain ⟨a9, y9, m9, e9, e9b, l9, n9, i9, g9, f9⟩ := P9; subst e9; subst e9b; (try simp only [AllLt] at l9); (try dsimp only); (try k_fold))
    repeat' ((fail_if_success (with_reducible show wpAny _ _ (PySem.call (Value.type "enumerate") _) _ _ _)); first | (k_unfold; (try dsimp only)) | (k_end; wrow_close) | walk1 | (dsimp only; walk1) | (leave1; walk_say "STEP leave1"; try dsimp only) | fail "no step")
    have hmA := Tr.mag_fits hokA (by omega)
    have hmB := Tr.mag_fits hokB (by omega)
    (rename Fr _ _ _ _ => F9)
    (rename News _ _ _ _ => N9)
    ktn_open
    refine' row_loop (y4 := Str.ofString "one") (y5 := Str.ofString "one") (rest := (a9, listOf y9.toArray m9) :: (a8, listOf y8.toArray m8) :: news) (fun i φ => S φ (n8.take i)) rfl rfl rfl rfl F9 N9 ?sub1 ?hl1 rfl rfl rfl rfl rfl i8 ?hvb1 (ints_zero ((n8.length : Int) + (n9.length : Int)).toNat) List.length_replicate (fun φ => by rw [S_zero]; rfl) ?turn1 ?done1
    case sub1 => tb_start
    case hl1 => k_mem
    case hvb1 => intro k9; have := row_le f8 k9; omega
    case turn1 =>
      intro i t c tc m₁ fs ns nf h7 tk7 own hc hlt hb1 hb2 hoff hi hln hg F8 N8
      clear F9 N9
      simp only [List.cons_append] at N8
      simp only [List.map_cons] at hoff
      try k_fold
      repeat' (first | (k_unfold; (try dsimp only)) | (k_end; wrow_close) | walk1 | (dsimp only; walk1) | (leave1; walk_say "STEP leave1"; try dsimp only) | fail "no step")
      (rename Fr _ _ _ _ => F7)
      (rename News _ _ _ _ => N7)
      refine' JR.step F7 N7 (by assumption) (by tb_start) (by tb_start) rfl rfl rfl rfl rfl ?_ hln hg ?_ hoff
      · omega
      · intro φ
        simp only [Int.toNat_natCast]
        exact S_take hc
    case done1 =>
      intro m₁ fs ns nf h7 tk7 hi hln hg F8 N8
      clear F9 N9
      try k_fold
      repeat' ((fail_if_success (with_reducible show wpAny _ _ (PySem.call (Value.type "enumerate") _) _ _ _)); first | (k_unfold; (try dsimp only)) | (k_end; wrow_close) | walk1 | (dsimp only; walk1) | (leave1; walk_say "STEP leave1"; try dsimp only) | fail "no step")
      (rename Fr _ _ _ _ => F9)
      (rename News _ _ _ _ => N9)
      ktn_open
      refine' row_loop (y4 := Str.ofString "found") (y5 := Str.ofString "found") (rest := (a9, listOf y9.toArray m9) :: (a8, listOf y8.toArray m8) :: news) (fun i φ => S φ n8 - S φ (n9.take i)) rfl rfl rfl rfl F9 N9 ?sub2 ?hl2 rfl rfl rfl rfl rfl i9 ?hvb2 hi hln (fun φ => by rw [hg, List.take_length]; simp [S]) ?turn2 ?done2
      case sub2 => tb_start
      case hl2 => k_mem
      case hvb2 => intro k9; have := row_le f9 k9; omega
      case turn2 =>
        intro i t c tc m₁ fs ns nf h7 tk7 own hc hlt hb1 hb2 hoff hi hln hg F8 N8
        clear F9 N9
        simp only [List.cons_append] at N8
        simp only [List.map_cons] at hoff
        try k_fold
        repeat' (first | (k_unfold; (try dsimp only)) | (k_end; wrow_close) | walk1 | (dsimp only; walk1) | (leave1; walk_say "STEP leave1"; try dsimp only) | fail "no step")
        (rename Fr _ _ _ _ => F7)
        (rename News _ _ _ _ => N7)
        refine' JR.step F7 N7 (by assumption) (by tb_start) (by tb_start) rfl rfl rfl rfl rfl ?_ hln hg ?_ hoff
        · omega
        · intro φ
          simp only [Int.toNat_natCast]
          have := S_take (φ := φ) hc; simp only [this]; grind
      case done2 =>
        intro m₁ fs ns nf h7 tk7 hi hln hg F8 N8
        clear F9 N9
        try k_fold
        repeat' (first | (k_unfold; (try dsimp only)) | (k_end; wrow_close) | walk1 | (dsimp only; walk1) | (leave1; walk_say "STEP leave1"; try dsimp only) | fail "no step")
        (rename Fr _ _ _ _ => F7)
        (rename News _ _ _ _ => N7)
        refine' hret _ _ _ _ F7 (fun p hp => N7 p ?_) ⟨_, _, _, rfl, rfl, by assumption, _, hi, ?_, ?_⟩
        · revert p; tb_start
        · simp only [Tr.len]; omega
        · intro φ
          rw [hg, List.take_length, f8, f9]; rfl
  | mul A1 B1 ihA ihB =>
    intro news v R hok hlv
    unfold Call
    k_fill
    intro dp un gd cn cs a₁ ccd cl outer A₀ base h₀ L m s Q E B F X N TT hk hd₁ hu hret
    cases R
    refine wpAny_call ?_
    simp only [Tr.size] at *
    k_dflt ktr_enter
    k_with_none
    obtain ⟨hokA, hokB⟩ := hok
    simp only [Tr.leaves] at hlv
    have hpA := Tr.leaves_pos A1
    have hpB := Tr.leaves_pos B1
    have hqA := Tr.len_le A1
    have hqB := Tr.len_le B1
    k_with "call ref" => first
      | (refine' Call.use ?k1 ?k2 ?k3 ?k4 ?k5 ?k6 (ihA ?R ?hk ?hl) ?k7 ?k8 ?_; (case k1 => k_asm); (case k2 => k_asm); (case k3 => k_asm); (case k4 => k_asm); (case R => tb_rel); (case hk => assumption); (case hl => omega); (case k5 => k_asm); (case k6 => exact rfl); (case k7 => ktr_room); (case k8 => ktr_units); intro r9 led9 h9 tk9 F9 N9 P9; obtain ⟨a8, y8, m8, e9, e9b, l8, n8, i8, g8, f8⟩ := P9; subst e9; subst e9b; (try simp only [AllLt] at l8); (try dsimp only); (try k_fold))
      | (refine' Call.use ?k1 ?k2 ?k3 ?k4 ?k5 ?k6 (ihB ?R ?hk ?hl) ?k7 ?k8 ?_; (case k1 => k_asm); (case k2 => k_asm); (case k3 => k_asm); (case k4 => k_asm); (case R => tb_rel); (case hk => assumption); (case hl => omega); (case k5 => k_asm); (case k6 => exact rfl); (case k7 => ktr_room); (case k8 => ktr_units); intro r9 led9 h9 tk9 F9 N9 P9; obtain ⟨a9, y9, m9, e9, e9b, l9, n9, i9, g9, f9⟩ := P9; subst e9; subst e9b; (try simp only [AllLt] at l9); (try dsimp only); (try k_fold))
    repeat' ((fail_if_success (with_reducible show wpAny _ _ (PySem.call (Value.type "enumerate") _) _ _ _)); first | (k_unfold; (try dsimp only)) | (k_end; wrow_close) | walk1 | (dsimp only; walk1) | (leave1; walk_say "STEP leave1"; try dsimp only) | fail "no step")
    have hmA := Tr.mag_fits hokA (by omega)
    have hmB := Tr.mag_fits hokB (by omega)
    (rename Fr _ _ _ _ => F9)
    (rename News _ _ _ _ => N9)
    ktn_open
    refine' row_loop (y4 := Str.ofString "found") (y5 := Str.ofString "found") (rest := (a9, listOf y9.toArray m9) :: (a8, listOf y8.toArray m8) :: news) (fun i φ => S (fun k => S (fun j => φ (k + j)) n9) (n8.take i)) rfl rfl rfl rfl F9 N9 ?sub1 ?hl1 rfl rfl rfl rfl rfl i8 ?hvb1 (ints_zero ((n8.length : Int) + (n9.length : Int)).toNat) List.length_replicate (fun φ => by rw [S_zero]; rfl) ?turn1 ?done1
    case sub1 => tb_start
    case hl1 => k_mem
    case hvb1 => intro k9; have := row_le f8 k9; omega
    case turn1 =>
      intro i t c tc m₁ fs ns nf h7 tk7 own hc hlt hb1 hb2 hoff hi hln hg F8 N8
      clear F9 N9
      simp only [List.cons_append] at N8
      simp only [List.map_cons] at hoff
      try k_fold
      repeat' ((fail_if_success (with_reducible show wpAny _ _ (PySem.call (Value.type "enumerate") _) _ _ _)); first | (k_unfold; (try dsimp only)) | (k_end; wrow_close) | walk1 | (dsimp only; walk1) | (leave1; walk_say "STEP leave1"; try dsimp only) | fail "no step")
      (rename Fr _ _ _ _ => F9)
      (rename News _ _ _ _ => N9)
      ktn_open
      refine' row_loop (y4 := Str.ofString "at") (y5 := Str.ofString "first") (rest := (a9, listOf y9.toArray m9) :: (a8, listOf y8.toArray m8) :: news ++ own) (fun j φ => S (fun k => S (fun j => φ (k + j)) n9) (n8.take i) + c * S (fun b => φ (i + b)) (n9.take j)) rfl rfl rfl rfl F9 N9 ?sub2 ?hl2 rfl rfl rfl rfl rfl i9 ?hvb2 hi hln (fun φ => by rw [hg]; simp [S]) ?turn2 ?done2
      case sub2 => tb_start
      case hl2 => k_mem
      case hvb2 => intro k9; have := row_le f9 k9; omega
      case turn2 =>
        intro j t' c' tc' m₂ fs ns nf h7 tk7 own' hc' hlt' hb1' hb2' hoff' hi hln hg F8 N8
        clear F9 N9
        simp only [List.cons_append] at N8
        simp only [List.map_cons, List.cons_append] at hoff'
        try k_fold
        repeat' (first | (k_unfold; (try dsimp only)) | (k_end; wrow_close) | walk1 | (dsimp only; walk1) | (leave1; walk_say "STEP leave1"; try dsimp only) | fail "no step")
        (rename Fr _ _ _ _ => F7)
        (rename News _ _ _ _ => N7)
        refine' JR.step F7 N7 (by assumption) (by tb_start) (by tb_start) rfl rfl rfl rfl rfl ?_ hln hg ?_ hoff'
        · omega
        · intro φ
          have := S_take (φ := fun b => φ (i + b)) hc'
          rw [this]
          rw [show ((i : Int) + (j : Int)).toNat = i + j by omega]
          grind
      case done2 =>
        intro m₂ fs ns nf h7 tk7 hi hln hg F8 N8
        clear F9 N9
        try k_fold
        repeat' (first | (k_unfold; (try dsimp only)) | (k_end; wrow_close) | walk1 | (dsimp only; walk1) | (leave1; walk_say "STEP leave1"; try dsimp only) | fail "no step")
        all_goals ((rename Fr _ _ _ _ => F7); (rename News _ _ _ _ => N7))
        refine' JR.fin F7 N7 (by tb_start) (by tb_start) rfl rfl rfl rfl rfl hi hln ?_ hoff
        · intro φ
          rw [hg, List.take_length, S_take hc]
    case done1 =>
      intro m₁ fs ns nf h7 tk7 hi hln hg F8 N8
      clear F9 N9
      try k_fold
      repeat' (first | (k_unfold; (try dsimp only)) | (k_end; wrow_close) | walk1 | (dsimp only; walk1) | (leave1; walk_say "STEP leave1"; try dsimp only) | fail "no step")
      (rename Fr _ _ _ _ => F7)
      (rename News _ _ _ _ => N7)
      refine' hret _ _ _ _ F7 (fun p hp => N7 p ?_) ⟨_, _, _, rfl, rfl, by assumption, _, hi, ?_, ?_⟩
      · revert p; tb_start
      · simp only [Tr.len]; omega
      · intro φ
        rw [hg, List.take_length, f8]
        simp only [f9]; rfl
end PartE3
section PartN1
theorem foldl_horner (p : Int) : ∀ (ns : List Int), ns.reverse.foldl (fun a c => a * p + c) 0 = S (fun i => p ^ i) ns
  | [] => rfl
  | n :: r => by
    rw [List.reverse_cons, List.foldl_append, foldl_horner p r]
    simp only [List.foldl_cons, List.foldl_nil, S]
    rw [show S (fun i => p ^ (i + 1)) r = S (fun i => p * p ^ i) r from S_congr (fun i => by rw [Int.pow_succ]; exact Int.mul_comm _ _) r, S_scale]
    simp; grind
theorem Tr.form_congr {φ ψ : Nat → Int} (h : ∀ i, φ i = ψ i) (T : Tr) : T.form φ = T.form ψ := by rw [show φ = ψ from funext h]
theorem Tr.form_scale (c : Int) : ∀ (T : Tr) (φ : Nat → Int), T.form (fun i => c * φ i) = c * T.form φ
  | .x, φ => rfl
  | .num k, φ => by simp only [Tr.form]; grind
  | .add a b, φ => by simp only [Tr.form, a.form_scale, b.form_scale]; grind
  | .sub a b, φ => by simp only [Tr.form, a.form_scale, b.form_scale]; grind
  | .mul a b, φ => by
    simp only [Tr.form]
    rw [a.form_congr (fun i => b.form_scale c (fun j => φ (i + j))), a.form_scale]
theorem Tr.form_add : ∀ (T : Tr) (φ ψ : Nat → Int), T.form (fun i => φ i + ψ i) = T.form φ + T.form ψ
  | .x, φ, ψ => rfl
  | .num k, φ, ψ => by simp only [Tr.form]; grind
  | .add a b, φ, ψ => by simp only [Tr.form, a.form_add, b.form_add]; grind
  | .sub a b, φ, ψ => by simp only [Tr.form, a.form_add, b.form_add]; grind
  | .mul a b, φ, ψ => by
    simp only [Tr.form]
    rw [a.form_congr (fun i => b.form_add (fun j => φ (i + j)) (fun j => ψ (i + j))), a.form_add]
/-- a weight times a number, on the right -/
theorem Tr.form_scale' (c : Int) (T : Tr) (φ : Nat → Int) : T.form (fun i => φ i * c) = T.form φ * c := by
  rw [T.form_congr (fun i => Int.mul_comm (φ i) c), T.form_scale, Int.mul_comm]
def P0 (p : Int) (i : Nat) : Int := p ^ i
def P1 (p : Int) (i : Nat) : Int := (i : Int) * p ^ (i - 1)
def P2 (p : Int) (i : Nat) : Int := (i : Int) * ((i - 1 : Nat) : Int) * p ^ (i - 1 - 1)
theorem P0_add (p : Int) (i j : Nat) : P0 p (i + j) = P0 p i * P0 p j := Int.pow_add ..
theorem P0_succ (p : Int) (i : Nat) : P0 p (i + 1) = P0 p i * p := Int.pow_succ ..
theorem P1_succ (p : Int) (i : Nat) : P1 p (i + 1) = P1 p i * p + P0 p i := by
  cases i with
  | zero => simp [P1, P0]
  | succ i =>
    simp only [P1, P0, Nat.add_sub_cancel, Int.pow_succ]
    push_cast
    grind
theorem P2_succ (p : Int) (i : Nat) : P2 p (i + 1) = P2 p i * p + 2 * P1 p i := by
  cases i with
  | zero => simp [P2, P1]
  | succ i => cases i with
    | zero => simp [P2, P1]
    | succ i =>
      simp only [P2, P1, Nat.add_sub_cancel, Int.pow_succ]
      push_cast
      grind
theorem P1_add (p : Int) (i : Nat) : ∀ j, P1 p (i + j) = P1 p i * P0 p j + P0 p i * P1 p j
  | 0 => by simp [P1, P0]
  | j + 1 => by
    rw [← Nat.add_assoc, P1_succ, P1_succ, P0_succ, P1_add p i j, P0_add]; grind
theorem P2_add (p : Int) (i : Nat) : ∀ j, P2 p (i + j) = P2 p i * P0 p j + 2 * (P1 p i * P1 p j) + P0 p i * P2 p j
  | 0 => by simp [P2, P1, P0]
  | j + 1 => by
    rw [← Nat.add_assoc, P2_succ, P2_succ, P1_succ, P0_succ, P2_add p i j, P1_add]; grind
theorem Tr.form_P0 (p : Int) : ∀ T : Tr, T.form (P0 p) = T.eval p
  | .x => by simp [Tr.form, Tr.eval, P0, Int.pow_succ]
  | .num k => by simp [Tr.form, Tr.eval, P0]
  | .add a b => by simp only [Tr.form, Tr.eval, a.form_P0, b.form_P0]
  | .sub a b => by simp only [Tr.form, Tr.eval, a.form_P0, b.form_P0]
  | .mul a b => by
    simp only [Tr.form, Tr.eval]
    rw [a.form_congr (fun i => (b.form_congr (fun j => P0_add p i j)).trans (b.form_scale (P0 p i) (P0 p)))]
    rw [b.form_P0, a.form_scale', a.form_P0]
theorem Tr.form_P1 (p : Int) : ∀ T : Tr, T.form (P1 p) = T.slope.eval p
  | .x => by simp [Tr.form, Tr.eval, Tr.slope, P1]
  | .num k => by simp [Tr.form, Tr.eval, Tr.slope, P1]
  | .add a b => by simp only [Tr.form, Tr.eval, Tr.slope, a.form_P1, b.form_P1]
  | .sub a b => by simp only [Tr.form, Tr.eval, Tr.slope, a.form_P1, b.form_P1]
  | .mul a b => by
    simp only [Tr.form, Tr.eval, Tr.slope]
    have e : ∀ i, (b.form fun j => P1 p (i + j)) = P1 p i * b.eval p + P0 p i * b.slope.eval p := fun i => by
      rw [b.form_congr (fun j => P1_add p i j), b.form_add, b.form_scale, b.form_scale, b.form_P0, b.form_P1]
    rw [a.form_congr e, a.form_add, a.form_scale', a.form_scale', a.form_P0, a.form_P1]
theorem Tr.form_P2 (p : Int) : ∀ T : Tr, T.form (P2 p) = T.slope.slope.eval p
  | .x => by simp [Tr.form, Tr.eval, Tr.slope, P2]
  | .num k => by simp [Tr.form, Tr.eval, Tr.slope, P2]
  | .add a b => by simp only [Tr.form, Tr.eval, Tr.slope, a.form_P2, b.form_P2]
  | .sub a b => by simp only [Tr.form, Tr.eval, Tr.slope, a.form_P2, b.form_P2]
  | .mul a b => by
    simp only [Tr.form, Tr.eval, Tr.slope]
    have e : ∀ i, (b.form fun j => P2 p (i + j)) = (P2 p i * b.eval p + P1 p i * (2 * b.slope.eval p)) + P0 p i * b.slope.slope.eval p := fun i => by
      have e1 : (b.form fun j => P2 p (i + j)) = b.form (fun j => (P2 p i * P0 p j + (2 * P1 p i) * P1 p j) + P0 p i * P2 p j) := b.form_congr (fun j => by rw [P2_add]; grind)
      rw [e1, b.form_add, b.form_add, b.form_scale, b.form_scale, b.form_scale, b.form_P0, b.form_P1, b.form_P2]; grind
    rw [a.form_congr e, a.form_add, a.form_add, a.form_scale', a.form_scale', a.form_scale', a.form_P0, a.form_P1, a.form_P2]; grind
/-- the halves of a step: what two steps, one up and one down, have in common -/
theorem Tr.taylor (p h : Int) : ∀ T : Tr, ∃ k g d, T.eval (p + h) = T.eval p + h * T.slope.eval p + h * h * k + h * h * h * g + h * h * h * h * d ∧
    T.eval (p - h) = T.eval p - h * T.slope.eval p + h * h * k - h * h * h * g + h * h * h * h * d ∧ T.slope.slope.eval p = 2 * k
  | .x => ⟨0, 0, 0, by simp [Tr.eval, Tr.slope], by simp [Tr.eval, Tr.slope], by simp [Tr.eval, Tr.slope]⟩
  | .num k => ⟨0, 0, 0, by simp [Tr.eval, Tr.slope], by simp [Tr.eval, Tr.slope], by simp [Tr.eval, Tr.slope]⟩
  | .add a b => by
    obtain ⟨k, g, d, e1, e2, e3⟩ := a.taylor p h
    obtain ⟨k', g', d', e1', e2', e3'⟩ := b.taylor p h
    refine ⟨k + k', g + g', d + d', ?_, ?_, ?_⟩ <;> simp only [Tr.eval, Tr.slope, e1, e2, e3, e1', e2', e3'] <;> grind
  | .sub a b => by
    obtain ⟨k, g, d, e1, e2, e3⟩ := a.taylor p h
    obtain ⟨k', g', d', e1', e2', e3'⟩ := b.taylor p h
    refine ⟨k - k', g - g', d - d', ?_, ?_, ?_⟩ <;> simp only [Tr.eval, Tr.slope, e1, e2, e3, e1', e2', e3'] <;> grind
  | .mul a b => by
    obtain ⟨k, g, d, e1, e2, e3⟩ := a.taylor p h
    obtain ⟨k', g', d', e1', e2', e3'⟩ := b.taylor p h
    refine ⟨a.eval p * k' + a.slope.eval p * b.slope.eval p + k * b.eval p,
      a.eval p * g' + a.slope.eval p * k' + k * b.slope.eval p + g * b.eval p + h * h * (a.slope.eval p * d' + k * g' + g * k' + d * b.slope.eval p) + h * h * h * h * (g * d' + d * g'),
      a.eval p * d' + a.slope.eval p * g' + k * k' + g * b.slope.eval p + d * b.eval p + h * h * (k * d' + g * g' + d * k') + h * h * h * h * (d * d'), ?_, ?_, ?_⟩
    · simp only [Tr.eval, Tr.slope, e1, e1']; grind
    · simp only [Tr.eval, Tr.slope, e2, e2']; grind
    · simp only [Tr.eval, Tr.slope, e3, e3']; grind
theorem rangeKs_cons (a : Int) (n : Nat) : rangeKs a (n + 1) = a :: rangeKs (a + 1) n := by
  simp only [rangeKs, List.range_succ_eq_map, List.map_cons, List.map_map]
  rw [show a + ((0 : Nat) : Int) = a by simp]
  congr 1
  refine List.map_congr_left fun i _ => ?_
  simp only [Function.comp]
  omega
/-- the weights of a lowered row -/
theorem S_lowered : ∀ (ns : List Int) (φ : Nat → Int), S φ (List.map (fun k => k * ns.getD k.toNat 0) (rangeKs 1 ((ns.length : Int) - 1).toNat)) = S (fun i => (i : Int) * φ (i - 1)) ns := by
  have key : ∀ (r pre : List Int) (φ : Nat → Int), S φ (List.map (fun k => k * (pre ++ r).getD k.toNat 0) (rangeKs (pre.length : Int) r.length)) = S (fun i => ((pre.length + i : Nat) : Int) * φ i) r := by
    intro r
    induction r with
    | nil => intro pre φ; rfl
    | cons n r ih =>
      intro pre φ
      have h := ih (pre ++ [n]) (fun i => φ (i + 1))
      rw [List.append_assoc] at h
      simp only [List.length_append, List.length_cons, List.length_nil] at h
      have e1 : (pre ++ n :: r).getD pre.length 0 = n := by simp [List.getD]
      simp only [List.length_cons, rangeKs_cons, List.map_cons, S, Int.toNat_natCast]
      have e2 : ((pre.length : Int) + 1) = ((pre.length + (0 + 1) : Nat) : Int) := by push_cast; rfl
      rw [e1, e2]
      rw [show pre ++ n :: r = pre ++ ([n] ++ r) from rfl, h]
      have e3 : S (fun i => ((pre.length + (0 + 1) + i : Nat) : Int) * φ (i + 1)) r = S (fun i => ((pre.length + (i + 1) : Nat) : Int) * φ (i + 1)) r := S_congr (fun i => by rw [show pre.length + (0 + 1) + i = pre.length + (i + 1) by omega]) r
      rw [e3]
      simp only [Nat.add_zero]
      grind
  intro ns φ
  cases ns with
  | nil => rfl
  | cons n r =>
    have h := key r [n] φ
    simp only [List.length_cons, List.length_nil] at h
    have e : (((r.length + 1 : Nat) : Int) - 1).toNat = r.length := by omega
    simp only [List.length_cons, e, S]
    have h' : S φ (List.map (fun k => k * (n :: r).getD k.toNat 0) (rangeKs 1 r.length)) = S (fun i => ((0 + 1 + i : Nat) : Int) * φ i) r := h
    rw [h']
    have e3 : S (fun i => ((0 + 1 + i : Nat) : Int) * φ i) r = S (fun i => ((i + 1 : Nat) : Int) * φ (i + 1 - 1)) r := S_congr (fun i => by rw [show 0 + 1 + i = i + 1 by omega]; rfl) r
    rw [e3]; simp
theorem lowered_len (ns : List Int) : (List.map (fun k => k * ns.getD k.toNat 0) (rangeKs 1 ((ns.length : Int) - 1).toNat)).length = ns.length - 1 := by
  rw [List.length_map, rangeKs_length]; omega
/-- a row, its slope's row, summed at a place -/
theorem row_0 {T : Tr} {ns : List Int} (h : ∀ φ, S φ ns = T.form φ) (p : Int) : ns.reverse.foldl (fun a c => a * p + c) 0 = T.eval p := by
  rw [foldl_horner]; exact (h _).trans (T.form_P0 p)
theorem row_1 {T : Tr} {ns : List Int} (h : ∀ φ, S φ ns = T.form φ) (p : Int) : (List.map (fun k => k * ns.getD k.toNat 0) (rangeKs 1 ((ns.length : Int) - 1).toNat)).reverse.foldl (fun a c => a * p + c) 0 = T.slope.eval p := by
  rw [foldl_horner, S_lowered]; exact (h _).trans (T.form_P1 p)
theorem row_2 {T : Tr} {ns ms : List Int} (h : ∀ φ, S φ ns = T.form φ) (p : Int) (e : ms = List.map (fun k => k * ns.getD k.toNat 0) (rangeKs 1 ((ns.length : Int) - 1).toNat)) :
    (List.map (fun k => k * ms.getD k.toNat 0) (rangeKs 1 ((ms.length : Int) - 1).toNat)).reverse.foldl (fun a c => a * p + c) 0 = T.slope.slope.eval p := by
  rw [foldl_horner, S_lowered, e, S_lowered]
  refine (h _).trans ((T.form_congr fun i => ?_).trans (T.form_P2 p))
  simp only [P2, Int.mul_assoc]
/-- sizes of what the trees are worth -/
def Tr.big : Tr → Nat
  | .x => 11
  | .num k => max k.natAbs 1
  | .add a b => a.big + b.big
  | .sub a b => a.big + b.big
  | .mul a b => a.big * b.big
theorem Tr.big_pos : ∀ T : Tr, 1 ≤ T.big
  | .x => by decide
  | .num k => Nat.le_max_right ..
  | .add a b => Nat.le_trans a.big_pos (Nat.le_add_right ..)
  | .sub a b => Nat.le_trans a.big_pos (Nat.le_add_right ..)
  | .mul a b => Nat.mul_le_mul a.big_pos b.big_pos
theorem Tr.big_eval {p : Int} (hp : -11 ≤ p ∧ p ≤ 11) : ∀ T : Tr, -(T.big : Int) ≤ T.eval p ∧ T.eval p ≤ T.big
  | .x => hp
  | .num k => by simp only [Tr.big, Tr.eval]; omega
  | .add a b => by have := a.big_eval hp; have := b.big_eval hp; simp only [Tr.big, Tr.eval]; omega
  | .sub a b => by have := a.big_eval hp; have := b.big_eval hp; simp only [Tr.big, Tr.eval]; omega
  | .mul a b => by
    have h1 := a.big_eval hp
    have h2 := b.big_eval hp
    simp only [Tr.big, Tr.eval]
    push_cast
    exact abs_le_mul h1.1 h1.2 h2.1 h2.2
theorem Tr.big_fit {p : Int} (hp : -11 ≤ p ∧ p ≤ 11) : ∀ T : Tr, T.big ≤ 2000000000 → T.fit p
  | .x, _ => ⟨by omega, by omega⟩
  | .num k, h => by
    simp only [Tr.big] at h
    exact ⟨by omega, by omega⟩
  | .add a b, h => by
    have h3 := (Tr.add a b).big_eval hp
    simp only [Tr.big, Tr.eval] at h h3
    exact ⟨a.big_fit hp (by omega), b.big_fit hp (by omega), by omega, by omega⟩
  | .sub a b, h => by
    have h3 := (Tr.sub a b).big_eval hp
    simp only [Tr.big, Tr.eval] at h h3
    exact ⟨a.big_fit hp (by omega), b.big_fit hp (by omega), by omega, by omega⟩
  | .mul a b, h => by
    have h3 := (Tr.mul a b).big_eval hp
    simp only [Tr.big, Tr.eval] at h h3
    push_cast at h3
    have h1 : a.big ≤ a.big * b.big := Nat.le_mul_of_pos_right _ b.big_pos
    have h2 : b.big ≤ a.big * b.big := Nat.le_mul_of_pos_left _ a.big_pos
    have h4 : ((a.big * b.big : Nat) : Int) ≤ ((2000000000 : Nat) : Int) := Int.ofNat_le.mpr h
    rw [Int.natCast_mul] at h4
    exact ⟨a.big_fit hp (by omega), b.big_fit hp (by omega), by omega, by omega⟩
theorem pow11 (n : Nat) : 1 ≤ 11 ^ n := Nat.pow_pos (by decide)
theorem Tr.big_0 : ∀ {T : Tr}, T.ok → T.big ≤ 11 ^ T.leaves
  | .x, _ => by decide
  | .num k, h => by
    have := h.1
    have := h.2
    simp only [Tr.big, Tr.leaves]; omega
  | .add a b, h => by
    have h1 := Tr.big_0 h.1
    have h2 := Tr.big_0 h.2
    have e1 : 2 ≤ 11 ^ a.leaves := Nat.le_trans (by decide) (Nat.pow_le_pow_right (by decide) a.leaves_pos : 11 ^ 1 ≤ 11 ^ a.leaves)
    have e2 : 2 ≤ 11 ^ b.leaves := Nat.le_trans (by decide) (Nat.pow_le_pow_right (by decide) b.leaves_pos : 11 ^ 1 ≤ 11 ^ b.leaves)
    have e3 := Nat.mul_le_mul_left (11 ^ a.leaves) e2
    have e4 := Nat.mul_le_mul_right (11 ^ b.leaves) e1
    simp only [Tr.big, Tr.leaves, Nat.pow_add]; omega
  | .sub a b, h => by
    have h1 := Tr.big_0 h.1
    have h2 := Tr.big_0 h.2
    have e1 : 2 ≤ 11 ^ a.leaves := Nat.le_trans (by decide) (Nat.pow_le_pow_right (by decide) a.leaves_pos : 11 ^ 1 ≤ 11 ^ a.leaves)
    have e2 : 2 ≤ 11 ^ b.leaves := Nat.le_trans (by decide) (Nat.pow_le_pow_right (by decide) b.leaves_pos : 11 ^ 1 ≤ 11 ^ b.leaves)
    have e3 := Nat.mul_le_mul_left (11 ^ a.leaves) e2
    have e4 := Nat.mul_le_mul_right (11 ^ b.leaves) e1
    simp only [Tr.big, Tr.leaves, Nat.pow_add]; omega
  | .mul a b, h => by
    simp only [Tr.big, Tr.leaves, Nat.pow_add]
    exact Nat.mul_le_mul (Tr.big_0 h.1) (Tr.big_0 h.2)
theorem sum_le {a b m n x y : Nat} (hx : 1 ≤ x) (hy : 1 ≤ y) (h1 : a ≤ m * x) (h2 : b ≤ n * y) : a + b ≤ (m + n) * (x * y) := by
  have e1 : m * x ≤ m * (x * y) := Nat.mul_le_mul_left _ (Nat.le_mul_of_pos_right _ hy)
  have e2 : n * y ≤ n * (x * y) := Nat.mul_le_mul_left _ (Nat.le_mul_of_pos_left _ hx)
  rw [Nat.add_mul]; omega
theorem Tr.big_1 : ∀ {T : Tr}, T.ok → T.slope.big ≤ T.leaves * 11 ^ T.leaves
  | .x, _ => by decide
  | .num k, _ => by simp [Tr.slope, Tr.big, Tr.leaves]
  | .add a b, h => by
    have := sum_le (pow11 a.leaves) (pow11 b.leaves) (Tr.big_1 h.1) (Tr.big_1 h.2)
    simp only [Tr.slope, Tr.big, Tr.leaves, Nat.pow_add]; omega
  | .sub a b, h => by
    have := sum_le (pow11 a.leaves) (pow11 b.leaves) (Tr.big_1 h.1) (Tr.big_1 h.2)
    simp only [Tr.slope, Tr.big, Tr.leaves, Nat.pow_add]; omega
  | .mul a b, h => by
    have h1 := Nat.mul_le_mul (Tr.big_1 h.1) (Tr.big_0 h.2)
    have h2 := Nat.mul_le_mul (Tr.big_0 h.1) (Tr.big_1 h.2)
    simp only [Tr.slope, Tr.big, Tr.leaves, Nat.pow_add]
    have e : a.leaves * 11 ^ a.leaves * 11 ^ b.leaves + 11 ^ a.leaves * (b.leaves * 11 ^ b.leaves) = (a.leaves + b.leaves) * (11 ^ a.leaves * 11 ^ b.leaves) := by
      grind
    omega
theorem Tr.big_2 : ∀ {T : Tr}, T.ok → T.slope.slope.big ≤ T.leaves * T.leaves * 11 ^ T.leaves
  | .x, _ => by decide
  | .num k, _ => by simp [Tr.slope, Tr.big, Tr.leaves]
  | .add a b, h => by
    have e0 := sum_le (pow11 a.leaves) (pow11 b.leaves) (Tr.big_2 h.1) (Tr.big_2 h.2)
    simp only [Tr.slope, Tr.big, Tr.leaves, Nat.pow_add]
    have e1 : (a.leaves * a.leaves + b.leaves * b.leaves) * (11 ^ a.leaves * 11 ^ b.leaves) ≤ (a.leaves + b.leaves) * (a.leaves + b.leaves) * (11 ^ a.leaves * 11 ^ b.leaves) := Nat.mul_le_mul_right _ (by simp only [Nat.add_mul, Nat.mul_add]; omega)
    omega
  | .sub a b, h => by
    have e0 := sum_le (pow11 a.leaves) (pow11 b.leaves) (Tr.big_2 h.1) (Tr.big_2 h.2)
    simp only [Tr.slope, Tr.big, Tr.leaves, Nat.pow_add]
    have e1 : (a.leaves * a.leaves + b.leaves * b.leaves) * (11 ^ a.leaves * 11 ^ b.leaves) ≤ (a.leaves + b.leaves) * (a.leaves + b.leaves) * (11 ^ a.leaves * 11 ^ b.leaves) := Nat.mul_le_mul_right _ (by simp only [Nat.add_mul, Nat.mul_add]; omega)
    omega
  | .mul a b, h => by
    have h1 := Nat.mul_le_mul (Tr.big_2 h.1) (Tr.big_0 h.2)
    have h2 := Nat.mul_le_mul (Tr.big_0 h.1) (Tr.big_2 h.2)
    have h3 := Nat.mul_le_mul (Tr.big_1 h.1) (Tr.big_1 h.2)
    simp only [Tr.slope, Tr.big, Tr.leaves, Nat.pow_add]
    generalize 11 ^ a.leaves = x at *
    generalize 11 ^ b.leaves = y at *
    generalize a.leaves = m at *
    generalize b.leaves = n at *
    have e : m * m * x * y + (m * x * (n * y) + m * x * (n * y)) + x * (n * n * y) = (m + n) * (m + n) * (x * y) := by grind
    omega
theorem Tr.fits {T : Tr} {p : Int} (h : T.ok) (hl : T.leaves = 5) (hp : -11 ≤ p ∧ p ≤ 11) : T.fit p ∧ T.slope.fit p ∧ T.slope.slope.fit p := by
  have h0 := Tr.big_0 h
  have h1 := Tr.big_1 h
  have h2 := Tr.big_2 h
  rw [hl] at h0 h1 h2
  exact ⟨T.big_fit hp (Nat.le_trans h0 (by decide)), T.slope.big_fit hp (Nat.le_trans h1 (by decide)), T.slope.slope.big_fit hp (Nat.le_trans h2 (by decide))⟩
theorem Tr.w_slope : ∀ T : Tr, T.slope.w ≤ T.w * T.w
  | .x => by decide
  | .num k => Nat.le_refl _
  | .add a b => by
    have := a.w_slope; have := b.w_slope; have := a.w_pos; have := b.w_pos
    simp only [Tr.slope, Tr.w, Nat.add_mul, Nat.mul_add]; omega
  | .sub a b => by
    have := a.w_slope; have := b.w_slope; have := a.w_pos; have := b.w_pos
    simp only [Tr.slope, Tr.w, Nat.add_mul, Nat.mul_add]; omega
  | .mul a b => by
    have := a.w_slope; have := b.w_slope; have := a.w_pos; have := b.w_pos
    simp only [Tr.slope, Tr.w, Nat.add_mul, Nat.mul_add]; omega
theorem Tr.w_leaves : ∀ T : Tr, T.w + 2 = 3 * T.leaves
  | .x => rfl
  | .num k => rfl
  | .add a b => by have := a.w_leaves; have := b.w_leaves; simp only [Tr.w, Tr.leaves]; omega
  | .sub a b => by have := a.w_leaves; have := b.w_leaves; simp only [Tr.w, Tr.leaves]; omega
  | .mul a b => by have := a.w_leaves; have := b.w_leaves; simp only [Tr.w, Tr.leaves]; omega
theorem Tr.ws {T : Tr} (hl : T.leaves = 5) : T.w ≤ 40000 ∧ T.slope.w ≤ 40000 ∧ T.slope.slope.w ≤ 40000 := by
  have h0 := T.w_leaves
  have h1 := T.w_slope
  have h2 := T.slope.w_slope
  have e : T.w = 13 := by omega
  rw [e] at h1
  have h3 := Nat.mul_le_mul h1 h1
  refine ⟨by omega, by omega, ?_⟩
  have : 13 * 13 * (13 * 13) = 28561 := by decide
  omega
theorem Tr.size_leaves : ∀ T : Tr, T.size + 1 = T.leaves
  | .x => rfl
  | .num k => rfl
  | .add a b => by have := a.size_leaves; have := b.size_leaves; simp only [Tr.size, Tr.leaves]; omega
  | .sub a b => by have := a.size_leaves; have := b.size_leaves; simp only [Tr.size, Tr.leaves]; omega
  | .mul a b => by have := a.size_leaves; have := b.size_leaves; simp only [Tr.size, Tr.leaves]; omega
theorem Tr.size_slope {T : Tr} (hl : T.leaves = 5) : T.size = 4 ∧ T.slope.size ≤ 60 := by
  have h0 := T.w_leaves
  have h1 := T.w_slope
  have h2 := T.slope.w_leaves
  have h3 := T.slope.size_leaves
  have h4 := T.size_leaves
  have e : T.w = 13 := by omega
  rw [e] at h1
  omega
end PartN1
section PartN2
theorem mods_any (T : Tr) (p h : Int) : ∃ c1 c2 c3 : Int,
    T.eval (p + h) - T.eval p - h * T.slope.eval p = h ^ Int.toNat 2 * c1 ∧
    T.eval (p + h) - T.eval (p - h) - 2 * h * T.slope.eval p = 2 * h ^ Int.toNat 3 * c2 ∧
    T.eval (p + h) + T.eval (p - h) - 2 * T.eval p - h ^ Int.toNat 2 * T.slope.slope.eval p = 2 * h ^ Int.toNat 4 * c3 := by
  obtain ⟨k, g, d, e1, e2, e3⟩ := T.taylor p h
  refine ⟨k + h * g + h * h * d, g, d, ?_, ?_, ?_⟩
  · rw [e1, show Int.toNat 2 = 2 from rfl]; grind
  · rw [e1, e2, show Int.toNat 3 = 3 from rfl]; grind
  · rw [e1, e2, e3, show Int.toNat 2 = 2 from rfl, show Int.toNat 4 = 4 from rfl]; grind
theorem worths {T : Tr} {p : Int} (h : T.ok) (hl : T.leaves = 5) (hp : -11 ≤ p ∧ p ≤ 11) :
    (-161051 ≤ T.eval p ∧ T.eval p ≤ 161051) ∧ (-805255 ≤ T.slope.eval p ∧ T.slope.eval p ≤ 805255) ∧ (-4026275 ≤ T.slope.slope.eval p ∧ T.slope.slope.eval p ≤ 4026275) := by
  have h0 := Tr.big_0 h
  have h1 := Tr.big_1 h
  have h2 := Tr.big_2 h
  rw [hl] at h0 h1 h2
  have k0 := T.big_eval hp
  have k1 := T.slope.big_eval hp
  have k2 := T.slope.slope.big_eval hp
  have e0 : 11 ^ 5 = 161051 := by decide
  rw [e0] at h0 h1 h2
  omega
theorem mods {T : Tr} {p st : Int} (h : T.ok) (hl : T.leaves = 5) (hp : 0 ≤ p ∧ p < 7) (hs : 0 ≤ st ∧ st < 4) : ∃ c1 c2 c3 : Int,
    ((-2000000000 ≤ T.eval (p + (2 + st)) - T.eval p - (2 + st) * T.slope.eval p ∧ T.eval (p + (2 + st)) - T.eval p - (2 + st) * T.slope.eval p ≤ 2000000000) ∧ (0 < (2 + st) ^ Int.toNat 2 ∧ (2 + st) ^ Int.toNat 2 ≤ 1000000) ∧
      T.eval (p + (2 + st)) - T.eval p - (2 + st) * T.slope.eval p = (2 + st) ^ Int.toNat 2 * c1) ∧
    ((-2000000000 ≤ T.eval (p + (2 + st)) - T.eval (p - (2 + st)) - 2 * (2 + st) * T.slope.eval p ∧ T.eval (p + (2 + st)) - T.eval (p - (2 + st)) - 2 * (2 + st) * T.slope.eval p ≤ 2000000000) ∧ (0 < 2 * (2 + st) ^ Int.toNat 3 ∧ 2 * (2 + st) ^ Int.toNat 3 ≤ 1000000) ∧
      T.eval (p + (2 + st)) - T.eval (p - (2 + st)) - 2 * (2 + st) * T.slope.eval p = 2 * (2 + st) ^ Int.toNat 3 * c2) ∧
    ((-2000000000 ≤ T.eval (p + (2 + st)) + T.eval (p - (2 + st)) - 2 * T.eval p - (2 + st) ^ Int.toNat 2 * T.slope.slope.eval p ∧ T.eval (p + (2 + st)) + T.eval (p - (2 + st)) - 2 * T.eval p - (2 + st) ^ Int.toNat 2 * T.slope.slope.eval p ≤ 2000000000) ∧ (0 < 2 * (2 + st) ^ Int.toNat 4 ∧ 2 * (2 + st) ^ Int.toNat 4 ≤ 1000000) ∧
      T.eval (p + (2 + st)) + T.eval (p - (2 + st)) - 2 * T.eval p - (2 + st) ^ Int.toNat 2 * T.slope.slope.eval p = 2 * (2 + st) ^ Int.toNat 4 * c3) := by
  obtain ⟨c1, c2, c3, m1, m2, m3⟩ := mods_any T p (2 + st)
  obtain ⟨w0, w1, w2⟩ := worths h hl (p := p) ⟨by omega, by omega⟩
  obtain ⟨u0, u1, u2⟩ := worths h hl (p := p + (2 + st)) ⟨by omega, by omega⟩
  obtain ⟨v0, v1, v2⟩ := worths h hl (p := p - (2 + st)) ⟨by omega, by omega⟩
  refine ⟨c1, c2, c3, ⟨?_, ?_, m1⟩, ⟨?_, ?_, m2⟩, ⟨?_, ?_, m3⟩⟩
  all_goals
    clear m1 m2 m3
    generalize T.eval (p + (2 + st)) = a at *
    generalize T.eval (p - (2 + st)) = b at *
    generalize T.eval p = c at *
    generalize T.slope.eval p = d at *
    generalize T.slope.slope.eval p = e at *
    rcases (show st = 0 ∨ st = 1 ∨ st = 2 ∨ st = 3 by omega) with rfl | rfl | rfl | rfl
    all_goals
      (try simp only [show Int.toNat 2 = 2 from rfl, show Int.toNat 3 = 3 from rfl, show Int.toNat 4 = 4 from rfl, Int.reduceAdd, Int.reducePow])
      omega
def MF (a b c : Int) : Prop := (-2000000000 ≤ a ∧ a ≤ 2000000000) ∧ (0 < b ∧ b ≤ 1000000) ∧ a = b * c
theorem mods_F {T : Tr} {p st : Int} (h : T.ok) (hl : T.leaves = 5) (hp : 0 ≤ p ∧ p < 7) (hs : 0 ≤ st ∧ st < 4) : ∃ c1 c2 c3 : Int,
    MF (T.eval (p + (2 + st)) - T.eval p - (2 + st) * T.slope.eval p) ((2 + st) ^ Int.toNat 2) c1 ∧
    MF (T.eval (p + (2 + st)) - T.eval (p - (2 + st)) - 2 * (2 + st) * T.slope.eval p) (2 * (2 + st) ^ Int.toNat 3) c2 ∧
    MF (T.eval (p + (2 + st)) + T.eval (p - (2 + st)) - 2 * T.eval p - (2 + st) ^ Int.toNat 2 * T.slope.slope.eval p) (2 * (2 + st) ^ Int.toNat 4) c3 := mods h hl hp hs
end PartN2
section PartZ0
theorem Call.mono {w : World} {mean : ExcName → Option Value} {mg mb : Str → Option Value} {f : Addr} {vs : List Value} {room : Nat} {news : List (Addr × Obj)} {Post Post' : List (Addr × Obj) → Value → Prop}
    (C : Call w mean mg mb f vs room news Post) (h : ∀ led r, Post led r → Post' led r) : Call w mean mg mb f vs room news Post' :=
  fun _ _ _ _ _ _ _ _ _ _ _ _ _ _ _ _ _ B F X N T hk hd hu ret => C _ _ _ _ _ _ _ _ _ _ _ _ _ _ _ _ _ B F X N T hk hd hu fun r led h' tk' F' N' p => ret r led h' tk' F' N' (h _ _ p)
def low (ns : List Int) : List Int := List.map (fun k => k * ns.getD k.toNat 0) (rangeKs 1 ((ns.length : Int) - 1).toNat)
theorem low_len (ns : List Int) : (low ns).length = ns.length - 1 := lowered_len ns
section
variable {w : World} {mean : ExcName → Option Value} {mg mb : Str → Option Value} {news : List (Addr × Obj)} {l : Addr} {vs : List Value} {ns ms ks : List Int} {n : Nat} {p : Int} {tp : Tok} {T : Tr}
theorem low_call (hm : (l, listOf vs.toArray n) ∈ news) (hi : IntsAre vs ns) (hlen : ns.length ≤ 100) :
    Call w mean mg mb 419 [.ref l] 5 news fun led r => ∃ a ys m ms, led = (a, listOf ys.toArray m) :: news ∧ r = .ref a ∧ IntsAre ys ms ∧ ms = low ns ∧ ms.length ≤ 100 :=
  (lowered_call hm hi hlen).mono fun _ _ ⟨a, ys, m, h1, h2, h3⟩ => ⟨a, ys, m, low ns, h1, h2, h3, rfl, by rw [low_len]; omega⟩
theorem sum_row0 (hm : (l, listOf vs.toArray n) ∈ news) (hi : IntsAre vs ns) (hg : ∀ φ, S φ ns = T.form φ) (hlen : ns.length ≤ 100) (hp : -20 ≤ p ∧ p ≤ 20) :
    Call w mean mg mb 426 [.ref l, .int p tp] 5 news fun led r => led = news ∧ ∃ t, r = .int (T.eval p) t :=
  (summed_call hm hi hlen hp).mono fun _ _ ⟨h1, t, h2⟩ => ⟨h1, t, by rw [h2, row_0 hg]⟩
theorem sum_row1 (hm : (l, listOf vs.toArray n) ∈ news) (hi : IntsAre vs ms) (he : ms = low ns) (hg : ∀ φ, S φ ns = T.form φ) (hlen : ms.length ≤ 100) (hp : -20 ≤ p ∧ p ≤ 20) :
    Call w mean mg mb 426 [.ref l, .int p tp] 5 news fun led r => led = news ∧ ∃ t, r = .int (T.slope.eval p) t :=
  (summed_call hm hi hlen hp).mono fun _ _ ⟨h1, t, h2⟩ => ⟨h1, t, by rw [h2, he]; exact congrArg (fun x => Value.int x t) (row_1 hg p)⟩
theorem sum_row2 (hm : (l, listOf vs.toArray n) ∈ news) (hi : IntsAre vs ks) (hk : ks = low ms) (he : ms = low ns) (hg : ∀ φ, S φ ns = T.form φ) (hlen : ks.length ≤ 100) (hp : -20 ≤ p ∧ p ≤ 20) :
    Call w mean mg mb 426 [.ref l, .int p tp] 5 news fun led r => led = news ∧ ∃ t, r = .int (T.slope.slope.eval p) t :=
  (summed_call hm hi hlen hp).mono fun _ _ ⟨h1, t, h2⟩ => ⟨h1, t, by rw [h2, hk]; exact congrArg (fun x => Value.int x t) (row_2 hg p he)⟩
end
theorem mod_call {w : World} {mean : ExcName → Option Value} {mg mb : Str → Option Value} {news : List (Addr × Obj)} {a b c : Int} {t1 t2 t3 t4 t5 : Tok} (h : MF a b c) :
    Call w mean mg mb 241 [.str (Str.ofString "MOD") t1, .int a t2, .int b t3, .int 32 t4, .int 9 t5] 8 news fun led r => led = news ∧ ∃ t, r = .int 0 t := mod_is h.1 h.2.1 h.2.2
end PartZ0
section PartZ1
local macro_rules | `(tactic| k_all) => `(tactic| first | assumption | exact List.forall_mem_nil _)
theorem pow_st {st : Int} (h0 : 0 ≤ st) (h1 : st < 4) : (2 + st).natAbs < 2 ^ 64 := by omega
section
variable {prog : Program} {w : World} {A : Around} {Q : Value → Shared → Prop} {E : Value → Shared → Prop} {s : Shared} {a : Int} {t u : Tok}
theorem ne_same (h : Q (.bool false) s) : wpAny (model prog w) A (compareOp .NotEq (.int a t) (.int a u)) Q E s := PyProof.Rows.ne_int (by rw [bne_self_eq_false]; exact h)
theorem eq_same (h : Q (.bool true) s) : wpAny (model prog w) A (compareOp .Eq (.int a t) (.int a u)) Q E s := PyProof.Rows.eq_int (by rw [beq_self_eq_true]; exact h)
end
local macro_rules | `(tactic| walk_at "binaryOp Pow int int") => `(tactic| (k_here; k_dflt (refine pow_int_small (by decide) (by decide) (pow_st (by with_reducible assumption) (by with_reducible assumption)) ?_)))
local macro_rules | `(tactic| walk_at "compareOp NotEq int int") => `(tactic| (k_here; with_reducible refine ne_same ?_))
local macro_rules | `(tactic| walk_at "compareOp Eq int int") => `(tactic| (k_here; with_reducible refine eq_same ?_))
local macro_rules | `(tactic| walk_at "binaryOp Mult int int") => `(tactic| (k_here; k_dflt (first | refine mul_int ?_ (mulL (by decide)) | refine mul_int ?_ (mulR (by with_reducible assumption)) | refine mul_int ?_ (mulL (by omega)) | refine mul_int ?_ (mulR (by omega)))))
theorem news_tail {h₀ h : Heap} {L : Addr} {a : Addr × Obj} {r : List (Addr × Obj)} (N : News h₀ L h (a :: r)) : News h₀ L h r := fun p hp => N p (.tail _ hp)
theorem post_k (args : List WData) : Challenge.rw_xm0043_01.row.claim.post args (.bool true) args = true := by kernel_rfl
theorem goes : PySem.Challenge.rw_xm0043_01.Holds := by
  refine hd ?_
  k_go0
  all_goals try k_fold
  repeat' ((fail_if_success (with_reducible show wpAny _ _ (PySem.call (Value.ref 393) _) _ _ _)); first | (k_unfold; (try dsimp only)) | (k_end; wrow_close) | ((with_reducible show wpAny _ _ (PySem.call (Value.ref 426) _) _ _ _); k_dflt ((refine' Call.use ?k1 ?k2 ?k3 ?k4 ?k5 ?k6 (sum_row2 ?hm ?hi ?hk ?he ?hg ?hlen ?hp) ?k7 ?k8 ?_; (case k1 => k_asm); (case k2 => k_asm); (case k3 => k_asm); (case k4 => k_asm); (case hm => k_mem); (case hi => assumption); (case hk => assumption); (case he => assumption); (case hg => assumption); (case hlen => omega); (case hp => omega); (case k5 => k_asm); (case k6 => exact rfl); (case k7 => first | ktr_room | decide | decide +kernel); (case k8 => first | ktr_units | decide | decide +kernel); intro r9 led9 h9 tk9 F9 N9 P9; obtain ⟨e9, e9b⟩ := P9; replace e9 := e9.symm; subst e9; refine Exists.elim e9b ?_; clear e9b; intro t9 e9b; subst e9b; (try dsimp only); (try k_fold)))) | ((with_reducible show wpAny _ _ (PySem.call (Value.ref 426) _) _ _ _); k_dflt ((refine' Call.use ?k1 ?k2 ?k3 ?k4 ?k5 ?k6 (sum_row1 ?hm ?hi ?he ?hg ?hlen ?hp) ?k7 ?k8 ?_; (case k1 => k_asm); (case k2 => k_asm); (case k3 => k_asm); (case k4 => k_asm); (case hm => k_mem); (case hi => assumption); (case he => assumption); (case hg => assumption); (case hlen => omega); (case hp => omega); (case k5 => k_asm); (case k6 => exact rfl); (case k7 => first | ktr_room | decide | decide +kernel); (case k8 => first | ktr_units | decide | decide +kernel); intro r9 led9 h9 tk9 F9 N9 P9; obtain ⟨e9, e9b⟩ := P9; replace e9 := e9.symm; subst e9; refine Exists.elim e9b ?_; clear e9b; intro t9 e9b; subst e9b; (try dsimp only); (try k_fold)))) | ((with_reducible show wpAny _ _ (PySem.call (Value.ref 426) _) _ _ _); k_dflt ((refine' Call.use ?k1 ?k2 ?k3 ?k4 ?k5 ?k6 (sum_row0 ?hm ?hi ?hg ?hlen ?hp) ?k7 ?k8 ?_; (case k1 => k_asm); (case k2 => k_asm); (case k3 => k_asm); (case k4 => k_asm); (case hm => k_mem); (case hi => assumption); (case hg => assumption); (case hlen => omega); (case hp => omega); (case k5 => k_asm); (case k6 => exact rfl); (case k7 => first | ktr_room | decide | decide +kernel); (case k8 => first | ktr_units | decide | decide +kernel); intro r9 led9 h9 tk9 F9 N9 P9; obtain ⟨e9, e9b⟩ := P9; replace e9 := e9.symm; subst e9; refine Exists.elim e9b ?_; clear e9b; intro t9 e9b; subst e9b; (try dsimp only); (try k_fold)))) | ((with_reducible show wpAny _ _ (PySem.call (Value.ref 419) _) _ _ _); k_dflt ((refine' Call.use ?k1 ?k2 ?k3 ?k4 ?k5 ?k6 (low_call ?hm ?hi ?hlen) ?k7 ?k8 ?_; (case k1 => k_asm); (case k2 => k_asm); (case k3 => k_asm); (case k4 => k_asm); (case hm => k_mem); (case hi => assumption); (case hlen => omega); (case k5 => k_asm); (case k6 => exact rfl); (case k7 => first | ktr_room | decide | decide +kernel); (case k8 => first | ktr_units | decide | decide +kernel); intro r9 led9 h9 tk9 F9 N9 P9; obtain ⟨a9, y9, m9, ms9, e9, e9b, i9, q9, w9⟩ := P9; subst e9; subst e9b; (try dsimp only); (try k_fold)))) | ((with_reducible show wpAny _ _ (PySem.call (Value.ref 407) _) _ _ _); k_dflt ((refine' Call.use ?k1 ?k2 ?k3 ?k4 ?k5 ?k6 (slope_call ?R) ?k7 ?k8 ?_; (case k1 => k_asm); (case k2 => k_asm); (case k3 => k_asm); (case k4 => k_asm); (case R => tb_rel); (case k5 => k_asm); (case k6 => exact rfl); (case k7 => first | ktr_room | decide | decide +kernel); (case k8 => first | ktr_units | decide | decide +kernel); intro r9 led9 h9 tk9 F9 N9 P9; obtain ⟨tl9, e9, T9, R9⟩ := P9; subst e9; (try simp only [List.cons_append, List.append_assoc] at N9 R9); (try dsimp only); (try k_fold)))) | ((with_reducible show wpAny _ _ (PySem.call (Value.ref 433) _) _ _ _); k_dflt ((refine' Call.use ?k1 ?k2 ?k3 ?k4 ?k5 ?k6 (at_call ?R ?hT ?hw) ?k7 ?k8 ?_; (case k1 => k_asm); (case k2 => k_asm); (case k3 => k_asm); (case k4 => k_asm); (case R => tb_rel); (case hT => assumption); (case hw => assumption); (case k5 => k_asm); (case k6 => exact rfl); (case k7 => first | ktr_room | decide | decide +kernel); (case k8 => first | ktr_units | decide | decide +kernel); intro r9 led9 h9 tk9 F9 N9 P9; obtain ⟨e9, e9b⟩ := P9; replace e9 := e9.symm; subst e9; refine Exists.elim e9b ?_; clear e9b; intro t9 e9b; subst e9b; (try dsimp only); (try k_fold)))) | walk1 | (dsimp only; first | ((with_reducible show wpAny _ _ (PySem.call (Value.ref 426) _) _ _ _); k_dflt ((refine' Call.use ?k1 ?k2 ?k3 ?k4 ?k5 ?k6 (sum_row2 ?hm ?hi ?hk ?he ?hg ?hlen ?hp) ?k7 ?k8 ?_; (case k1 => k_asm); (case k2 => k_asm); (case k3 => k_asm); (case k4 => k_asm); (case hm => k_mem); (case hi => assumption); (case hk => assumption); (case he => assumption); (case hg => assumption); (case hlen => omega); (case hp => omega); (case k5 => k_asm); (case k6 => exact rfl); (case k7 => first | ktr_room | decide | decide +kernel); (case k8 => first | ktr_units | decide | decide +kernel); intro r9 led9 h9 tk9 F9 N9 P9; obtain ⟨e9, e9b⟩ := P9; replace e9 := e9.symm; subst e9; refine Exists.elim e9b ?_; clear e9b; intro t9 e9b; subst e9b; (try dsimp only); (try k_fold)))) | ((with_reducible show wpAny _ _ (PySem.call (Value.ref 426) _) _ _ _); k_dflt ((refine' Call.use ?k1 ?k2 ?k3 ?k4 ?k5 ?k6 (sum_row1 ?hm ?hi ?he ?hg ?hlen ?hp) ?k7 ?k8 ?_; (case k1 => k_asm); (case k2 => k_asm); (case k3 => k_asm); (case k4 => k_asm); (case hm => k_mem); (case hi => assumption); (case he => assumption); (case hg => assumption); (case hlen => omega); (case hp => omega); (case k5 => k_asm); (case k6 => exact rfl); (case k7 => first | ktr_room | decide | decide +kernel); (case k8 => first | ktr_units | decide | decide +kernel); intro r9 led9 h9 tk9 F9 N9 P9; obtain ⟨e9, e9b⟩ := P9; replace e9 := e9.symm; subst e9; refine Exists.elim e9b ?_; clear e9b; intro t9 e9b; subst e9b; (try dsimp only); (try k_fold)))) | ((with_reducible show wpAny _ _ (PySem.call (Value.ref 426) _) _ _ _); k_dflt ((refine' Call.use ?k1 ?k2 ?k3 ?k4 ?k5 ?k6 (sum_row0 ?hm ?hi ?hg ?hlen ?hp) ?k7 ?k8 ?_; (case k1 => k_asm); (case k2 => k_asm); (case k3 => k_asm); (case k4 => k_asm); (case hm => k_mem); (case hi => assumption); (case hg => assumption); (case hlen => omega); (case hp => omega); (case k5 => k_asm); (case k6 => exact rfl); (case k7 => first | ktr_room | decide | decide +kernel); (case k8 => first | ktr_units | decide | decide +kernel); intro r9 led9 h9 tk9 F9 N9 P9; obtain ⟨e9, e9b⟩ := P9; replace e9 := e9.symm; subst e9; refine Exists.elim e9b ?_; clear e9b; intro t9 e9b; subst e9b; (try dsimp only); (try k_fold)))) | ((with_reducible show wpAny _ _ (PySem.call (Value.ref 419) _) _ _ _); k_dflt ((refine' Call.use ?k1 ?k2 ?k3 ?k4 ?k5 ?k6 (low_call ?hm ?hi ?hlen) ?k7 ?k8 ?_; (case k1 => k_asm); (case k2 => k_asm); (case k3 => k_asm); (case k4 => k_asm); (case hm => k_mem); (case hi => assumption); (case hlen => omega); (case k5 => k_asm); (case k6 => exact rfl); (case k7 => first | ktr_room | decide | decide +kernel); (case k8 => first | ktr_units | decide | decide +kernel); intro r9 led9 h9 tk9 F9 N9 P9; obtain ⟨a9, y9, m9, ms9, e9, e9b, i9, q9, w9⟩ := P9; subst e9; subst e9b; (try dsimp only); (try k_fold)))) | ((with_reducible show wpAny _ _ (PySem.call (Value.ref 407) _) _ _ _); k_dflt ((refine' Call.use ?k1 ?k2 ?k3 ?k4 ?k5 ?k6 (slope_call ?R) ?k7 ?k8 ?_; (case k1 => k_asm); (case k2 => k_asm); (case k3 => k_asm); (case k4 => k_asm); (case R => tb_rel); (case k5 => k_asm); (case k6 => exact rfl); (case k7 => first | ktr_room | decide | decide +kernel); (case k8 => first | ktr_units | decide | decide +kernel); intro r9 led9 h9 tk9 F9 N9 P9; obtain ⟨tl9, e9, T9, R9⟩ := P9; subst e9; (try simp only [List.cons_append, List.append_assoc] at N9 R9); (try dsimp only); (try k_fold)))) | ((with_reducible show wpAny _ _ (PySem.call (Value.ref 433) _) _ _ _); k_dflt ((refine' Call.use ?k1 ?k2 ?k3 ?k4 ?k5 ?k6 (at_call ?R ?hT ?hw) ?k7 ?k8 ?_; (case k1 => k_asm); (case k2 => k_asm); (case k3 => k_asm); (case k4 => k_asm); (case R => tb_rel); (case hT => assumption); (case hw => assumption); (case k5 => k_asm); (case k6 => exact rfl); (case k7 => first | ktr_room | decide | decide +kernel); (case k8 => first | ktr_units | decide | decide +kernel); intro r9 led9 h9 tk9 F9 N9 P9; obtain ⟨e9, e9b⟩ := P9; replace e9 := e9.symm; subst e9; refine Exists.elim e9b ?_; clear e9b; intro t9 e9b; subst e9b; (try dsimp only); (try k_fold)))) | walk1) | (leave1; walk_say "STEP leave1"; try dsimp only) | fail "no step")
  k_dflt ((refine' Call.use ?k1 ?k2 ?k3 ?k4 ?k5 ?k6 (rising_call ?ci ?clen ?c0 ?c1 ?ck0 ?ck1 ?cne ?cr) ?k7 ?k8 ?_; (case k1 => k_asm); (case k2 => k_asm); (case k3 => k_asm); (case k4 => k_asm); (case ci => assumption); (case clen => omega); (case c0 => omega); (case c1 => omega); (case ck0 => omega); (case ck1 => omega); (case cne => first | assumption | k_ne); (case cr => exact List.forall_mem_nil _); (case k5 => k_asm); (case k6 => exact rfl); (case k7 => first | ktr_room | decide | decide +kernel); (case k8 => first | ktr_units | decide | decide +kernel); intro r9 led9 h9 tk9 F9 N9 P9; refine Exists.elim P9 ?_; clear P9; intro t9 P9; refine Exists.elim P9 ?_; clear P9; intro place P9; refine Exists.elim P9 ?_; clear P9; intro tr9 P9; obtain ⟨e9, e9b, lo_place, hi_place⟩ := P9; subst e9; subst e9b; (try dsimp only); (try k_fold)))
  repeat' ((fail_if_success (with_reducible show wpAny _ _ (PySem.call (Value.ref 393) _) _ _ _)); first | (k_unfold; (try dsimp only)) | (k_end; wrow_close) | ((with_reducible show wpAny _ _ (PySem.call (Value.ref 426) _) _ _ _); k_dflt ((refine' Call.use ?k1 ?k2 ?k3 ?k4 ?k5 ?k6 (sum_row2 ?hm ?hi ?hk ?he ?hg ?hlen ?hp) ?k7 ?k8 ?_; (case k1 => k_asm); (case k2 => k_asm); (case k3 => k_asm); (case k4 => k_asm); (case hm => k_mem); (case hi => assumption); (case hk => assumption); (case he => assumption); (case hg => assumption); (case hlen => omega); (case hp => omega); (case k5 => k_asm); (case k6 => exact rfl); (case k7 => first | ktr_room | decide | decide +kernel); (case k8 => first | ktr_units | decide | decide +kernel); intro r9 led9 h9 tk9 F9 N9 P9; obtain ⟨e9, e9b⟩ := P9; replace e9 := e9.symm; subst e9; refine Exists.elim e9b ?_; clear e9b; intro t9 e9b; subst e9b; (try dsimp only); (try k_fold)))) | ((with_reducible show wpAny _ _ (PySem.call (Value.ref 426) _) _ _ _); k_dflt ((refine' Call.use ?k1 ?k2 ?k3 ?k4 ?k5 ?k6 (sum_row1 ?hm ?hi ?he ?hg ?hlen ?hp) ?k7 ?k8 ?_; (case k1 => k_asm); (case k2 => k_asm); (case k3 => k_asm); (case k4 => k_asm); (case hm => k_mem); (case hi => assumption); (case he => assumption); (case hg => assumption); (case hlen => omega); (case hp => omega); (case k5 => k_asm); (case k6 => exact rfl); (case k7 => first | ktr_room | decide | decide +kernel); (case k8 => first | ktr_units | decide | decide +kernel); intro r9 led9 h9 tk9 F9 N9 P9; obtain ⟨e9, e9b⟩ := P9; replace e9 := e9.symm; subst e9; refine Exists.elim e9b ?_; clear e9b; intro t9 e9b; subst e9b; (try dsimp only); (try k_fold)))) | ((with_reducible show wpAny _ _ (PySem.call (Value.ref 426) _) _ _ _); k_dflt ((refine' Call.use ?k1 ?k2 ?k3 ?k4 ?k5 ?k6 (sum_row0 ?hm ?hi ?hg ?hlen ?hp) ?k7 ?k8 ?_; (case k1 => k_asm); (case k2 => k_asm); (case k3 => k_asm); (case k4 => k_asm); (case hm => k_mem); (case hi => assumption); (case hg => assumption); (case hlen => omega); (case hp => omega); (case k5 => k_asm); (case k6 => exact rfl); (case k7 => first | ktr_room | decide | decide +kernel); (case k8 => first | ktr_units | decide | decide +kernel); intro r9 led9 h9 tk9 F9 N9 P9; obtain ⟨e9, e9b⟩ := P9; replace e9 := e9.symm; subst e9; refine Exists.elim e9b ?_; clear e9b; intro t9 e9b; subst e9b; (try dsimp only); (try k_fold)))) | ((with_reducible show wpAny _ _ (PySem.call (Value.ref 419) _) _ _ _); k_dflt ((refine' Call.use ?k1 ?k2 ?k3 ?k4 ?k5 ?k6 (low_call ?hm ?hi ?hlen) ?k7 ?k8 ?_; (case k1 => k_asm); (case k2 => k_asm); (case k3 => k_asm); (case k4 => k_asm); (case hm => k_mem); (case hi => assumption); (case hlen => omega); (case k5 => k_asm); (case k6 => exact rfl); (case k7 => first | ktr_room | decide | decide +kernel); (case k8 => first | ktr_units | decide | decide +kernel); intro r9 led9 h9 tk9 F9 N9 P9; obtain ⟨a9, y9, m9, ms9, e9, e9b, i9, q9, w9⟩ := P9; subst e9; subst e9b; (try dsimp only); (try k_fold)))) | ((with_reducible show wpAny _ _ (PySem.call (Value.ref 407) _) _ _ _); k_dflt ((refine' Call.use ?k1 ?k2 ?k3 ?k4 ?k5 ?k6 (slope_call ?R) ?k7 ?k8 ?_; (case k1 => k_asm); (case k2 => k_asm); (case k3 => k_asm); (case k4 => k_asm); (case R => tb_rel); (case k5 => k_asm); (case k6 => exact rfl); (case k7 => first | ktr_room | decide | decide +kernel); (case k8 => first | ktr_units | decide | decide +kernel); intro r9 led9 h9 tk9 F9 N9 P9; obtain ⟨tl9, e9, T9, R9⟩ := P9; subst e9; (try simp only [List.cons_append, List.append_assoc] at N9 R9); (try dsimp only); (try k_fold)))) | ((with_reducible show wpAny _ _ (PySem.call (Value.ref 433) _) _ _ _); k_dflt ((refine' Call.use ?k1 ?k2 ?k3 ?k4 ?k5 ?k6 (at_call ?R ?hT ?hw) ?k7 ?k8 ?_; (case k1 => k_asm); (case k2 => k_asm); (case k3 => k_asm); (case k4 => k_asm); (case R => tb_rel); (case hT => assumption); (case hw => assumption); (case k5 => k_asm); (case k6 => exact rfl); (case k7 => first | ktr_room | decide | decide +kernel); (case k8 => first | ktr_units | decide | decide +kernel); intro r9 led9 h9 tk9 F9 N9 P9; obtain ⟨e9, e9b⟩ := P9; replace e9 := e9.symm; subst e9; refine Exists.elim e9b ?_; clear e9b; intro t9 e9b; subst e9b; (try dsimp only); (try k_fold)))) | walk1 | (dsimp only; first | ((with_reducible show wpAny _ _ (PySem.call (Value.ref 426) _) _ _ _); k_dflt ((refine' Call.use ?k1 ?k2 ?k3 ?k4 ?k5 ?k6 (sum_row2 ?hm ?hi ?hk ?he ?hg ?hlen ?hp) ?k7 ?k8 ?_; (case k1 => k_asm); (case k2 => k_asm); (case k3 => k_asm); (case k4 => k_asm); (case hm => k_mem); (case hi => assumption); (case hk => assumption); (case he => assumption); (case hg => assumption); (case hlen => omega); (case hp => omega); (case k5 => k_asm); (case k6 => exact rfl); (case k7 => first | ktr_room | decide | decide +kernel); (case k8 => first | ktr_units | decide | decide +kernel); intro r9 led9 h9 tk9 F9 N9 P9; obtain ⟨e9, e9b⟩ := P9; replace e9 := e9.symm; subst e9; refine Exists.elim e9b ?_; clear e9b; intro t9 e9b; subst e9b; (try dsimp only); (try k_fold)))) | ((with_reducible show wpAny _ _ (PySem.call (Value.ref 426) _) _ _ _); k_dflt ((refine' Call.use ?k1 ?k2 ?k3 ?k4 ?k5 ?k6 (sum_row1 ?hm ?hi ?he ?hg ?hlen ?hp) ?k7 ?k8 ?_; (case k1 => k_asm); (case k2 => k_asm); (case k3 => k_asm); (case k4 => k_asm); (case hm => k_mem); (case hi => assumption); (case he => assumption); (case hg => assumption); (case hlen => omega); (case hp => omega); (case k5 => k_asm); (case k6 => exact rfl); (case k7 => first | ktr_room | decide | decide +kernel); (case k8 => first | ktr_units | decide | decide +kernel); intro r9 led9 h9 tk9 F9 N9 P9; obtain ⟨e9, e9b⟩ := P9; replace e9 := e9.symm; subst e9; refine Exists.elim e9b ?_; clear e9b; intro t9 e9b; subst e9b; (try dsimp only); (try k_fold)))) | ((with_reducible show wpAny _ _ (PySem.call (Value.ref 426) _) _ _ _); k_dflt ((refine' Call.use ?k1 ?k2 ?k3 ?k4 ?k5 ?k6 (sum_row0 ?hm ?hi ?hg ?hlen ?hp) ?k7 ?k8 ?_; (case k1 => k_asm); (case k2 => k_asm); (case k3 => k_asm); (case k4 => k_asm); (case hm => k_mem); (case hi => assumption); (case hg => assumption); (case hlen => omega); (case hp => omega); (case k5 => k_asm); (case k6 => exact rfl); (case k7 => first | ktr_room | decide | decide +kernel); (case k8 => first | ktr_units | decide | decide +kernel); intro r9 led9 h9 tk9 F9 N9 P9; obtain ⟨e9, e9b⟩ := P9; replace e9 := e9.symm; subst e9; refine Exists.elim e9b ?_; clear e9b; intro t9 e9b; subst e9b; (try dsimp only); (try k_fold)))) | ((with_reducible show wpAny _ _ (PySem.call (Value.ref 419) _) _ _ _); k_dflt ((refine' Call.use ?k1 ?k2 ?k3 ?k4 ?k5 ?k6 (low_call ?hm ?hi ?hlen) ?k7 ?k8 ?_; (case k1 => k_asm); (case k2 => k_asm); (case k3 => k_asm); (case k4 => k_asm); (case hm => k_mem); (case hi => assumption); (case hlen => omega); (case k5 => k_asm); (case k6 => exact rfl); (case k7 => first | ktr_room | decide | decide +kernel); (case k8 => first | ktr_units | decide | decide +kernel); intro r9 led9 h9 tk9 F9 N9 P9; obtain ⟨a9, y9, m9, ms9, e9, e9b, i9, q9, w9⟩ := P9; subst e9; subst e9b; (try dsimp only); (try k_fold)))) | ((with_reducible show wpAny _ _ (PySem.call (Value.ref 407) _) _ _ _); k_dflt ((refine' Call.use ?k1 ?k2 ?k3 ?k4 ?k5 ?k6 (slope_call ?R) ?k7 ?k8 ?_; (case k1 => k_asm); (case k2 => k_asm); (case k3 => k_asm); (case k4 => k_asm); (case R => tb_rel); (case k5 => k_asm); (case k6 => exact rfl); (case k7 => first | ktr_room | decide | decide +kernel); (case k8 => first | ktr_units | decide | decide +kernel); intro r9 led9 h9 tk9 F9 N9 P9; obtain ⟨tl9, e9, T9, R9⟩ := P9; subst e9; (try simp only [List.cons_append, List.append_assoc] at N9 R9); (try dsimp only); (try k_fold)))) | ((with_reducible show wpAny _ _ (PySem.call (Value.ref 433) _) _ _ _); k_dflt ((refine' Call.use ?k1 ?k2 ?k3 ?k4 ?k5 ?k6 (at_call ?R ?hT ?hw) ?k7 ?k8 ?_; (case k1 => k_asm); (case k2 => k_asm); (case k3 => k_asm); (case k4 => k_asm); (case R => tb_rel); (case hT => assumption); (case hw => assumption); (case k5 => k_asm); (case k6 => exact rfl); (case k7 => first | ktr_room | decide | decide +kernel); (case k8 => first | ktr_units | decide | decide +kernel); intro r9 led9 h9 tk9 F9 N9 P9; obtain ⟨e9, e9b⟩ := P9; replace e9 := e9.symm; subst e9; refine Exists.elim e9b ?_; clear e9b; intro t9 e9b; subst e9b; (try dsimp only); (try k_fold)))) | walk1) | (leave1; walk_say "STEP leave1"; try dsimp only) | fail "no step")
  k_dflt ((refine' Call.use ?k1 ?k2 ?k3 ?k4 ?k5 ?k6 (rising_call ?ci ?clen ?c0 ?c1 ?ck0 ?ck1 ?cne ?cr) ?k7 ?k8 ?_; (case k1 => k_asm); (case k2 => k_asm); (case k3 => k_asm); (case k4 => k_asm); (case ci => assumption); (case clen => omega); (case c0 => omega); (case c1 => omega); (case ck0 => omega); (case ck1 => omega); (case cne => first | assumption | k_ne); (case cr => exact List.forall_mem_nil _); (case k5 => k_asm); (case k6 => exact rfl); (case k7 => first | ktr_room | decide | decide +kernel); (case k8 => first | ktr_units | decide | decide +kernel); intro r9 led9 h9 tk9 F9 N9 P9; refine Exists.elim P9 ?_; clear P9; intro t9 P9; refine Exists.elim P9 ?_; clear P9; intro st P9; refine Exists.elim P9 ?_; clear P9; intro tr9 P9; obtain ⟨e9, e9b, lo_st, hi_st⟩ := P9; subst e9; subst e9b; (try dsimp only); (try k_fold)))
  repeat' ((fail_if_success (with_reducible show wpAny _ _ (PySem.call (Value.ref 400) _) _ _ _)); first | (k_unfold; (try dsimp only)) | (k_end; wrow_close) | ((with_reducible show wpAny _ _ (PySem.call (Value.ref 426) _) _ _ _); k_dflt ((refine' Call.use ?k1 ?k2 ?k3 ?k4 ?k5 ?k6 (sum_row2 ?hm ?hi ?hk ?he ?hg ?hlen ?hp) ?k7 ?k8 ?_; (case k1 => k_asm); (case k2 => k_asm); (case k3 => k_asm); (case k4 => k_asm); (case hm => k_mem); (case hi => assumption); (case hk => assumption); (case he => assumption); (case hg => assumption); (case hlen => omega); (case hp => omega); (case k5 => k_asm); (case k6 => exact rfl); (case k7 => first | ktr_room | decide | decide +kernel); (case k8 => first | ktr_units | decide | decide +kernel); intro r9 led9 h9 tk9 F9 N9 P9; obtain ⟨e9, e9b⟩ := P9; replace e9 := e9.symm; subst e9; refine Exists.elim e9b ?_; clear e9b; intro t9 e9b; subst e9b; (try dsimp only); (try k_fold)))) | ((with_reducible show wpAny _ _ (PySem.call (Value.ref 426) _) _ _ _); k_dflt ((refine' Call.use ?k1 ?k2 ?k3 ?k4 ?k5 ?k6 (sum_row1 ?hm ?hi ?he ?hg ?hlen ?hp) ?k7 ?k8 ?_; (case k1 => k_asm); (case k2 => k_asm); (case k3 => k_asm); (case k4 => k_asm); (case hm => k_mem); (case hi => assumption); (case he => assumption); (case hg => assumption); (case hlen => omega); (case hp => omega); (case k5 => k_asm); (case k6 => exact rfl); (case k7 => first | ktr_room | decide | decide +kernel); (case k8 => first | ktr_units | decide | decide +kernel); intro r9 led9 h9 tk9 F9 N9 P9; obtain ⟨e9, e9b⟩ := P9; replace e9 := e9.symm; subst e9; refine Exists.elim e9b ?_; clear e9b; intro t9 e9b; subst e9b; (try dsimp only); (try k_fold)))) | ((with_reducible show wpAny _ _ (PySem.call (Value.ref 426) _) _ _ _); k_dflt ((refine' Call.use ?k1 ?k2 ?k3 ?k4 ?k5 ?k6 (sum_row0 ?hm ?hi ?hg ?hlen ?hp) ?k7 ?k8 ?_; (case k1 => k_asm); (case k2 => k_asm); (case k3 => k_asm); (case k4 => k_asm); (case hm => k_mem); (case hi => assumption); (case hg => assumption); (case hlen => omega); (case hp => omega); (case k5 => k_asm); (case k6 => exact rfl); (case k7 => first | ktr_room | decide | decide +kernel); (case k8 => first | ktr_units | decide | decide +kernel); intro r9 led9 h9 tk9 F9 N9 P9; obtain ⟨e9, e9b⟩ := P9; replace e9 := e9.symm; subst e9; refine Exists.elim e9b ?_; clear e9b; intro t9 e9b; subst e9b; (try dsimp only); (try k_fold)))) | ((with_reducible show wpAny _ _ (PySem.call (Value.ref 419) _) _ _ _); k_dflt ((refine' Call.use ?k1 ?k2 ?k3 ?k4 ?k5 ?k6 (low_call ?hm ?hi ?hlen) ?k7 ?k8 ?_; (case k1 => k_asm); (case k2 => k_asm); (case k3 => k_asm); (case k4 => k_asm); (case hm => k_mem); (case hi => assumption); (case hlen => omega); (case k5 => k_asm); (case k6 => exact rfl); (case k7 => first | ktr_room | decide | decide +kernel); (case k8 => first | ktr_units | decide | decide +kernel); intro r9 led9 h9 tk9 F9 N9 P9; obtain ⟨a9, y9, m9, ms9, e9, e9b, i9, q9, w9⟩ := P9; subst e9; subst e9b; (try dsimp only); (try k_fold)))) | ((with_reducible show wpAny _ _ (PySem.call (Value.ref 407) _) _ _ _); k_dflt ((refine' Call.use ?k1 ?k2 ?k3 ?k4 ?k5 ?k6 (slope_call ?R) ?k7 ?k8 ?_; (case k1 => k_asm); (case k2 => k_asm); (case k3 => k_asm); (case k4 => k_asm); (case R => tb_rel); (case k5 => k_asm); (case k6 => exact rfl); (case k7 => first | ktr_room | decide | decide +kernel); (case k8 => first | ktr_units | decide | decide +kernel); intro r9 led9 h9 tk9 F9 N9 P9; obtain ⟨tl9, e9, T9, R9⟩ := P9; subst e9; (try simp only [List.cons_append, List.append_assoc] at N9 R9); (try dsimp only); (try k_fold)))) | ((with_reducible show wpAny _ _ (PySem.call (Value.ref 433) _) _ _ _); k_dflt ((refine' Call.use ?k1 ?k2 ?k3 ?k4 ?k5 ?k6 (at_call ?R ?hT ?hw) ?k7 ?k8 ?_; (case k1 => k_asm); (case k2 => k_asm); (case k3 => k_asm); (case k4 => k_asm); (case R => tb_rel); (case hT => assumption); (case hw => assumption); (case k5 => k_asm); (case k6 => exact rfl); (case k7 => first | ktr_room | decide | decide +kernel); (case k8 => first | ktr_units | decide | decide +kernel); intro r9 led9 h9 tk9 F9 N9 P9; obtain ⟨e9, e9b⟩ := P9; replace e9 := e9.symm; subst e9; refine Exists.elim e9b ?_; clear e9b; intro t9 e9b; subst e9b; (try dsimp only); (try k_fold)))) | walk1 | (dsimp only; first | ((with_reducible show wpAny _ _ (PySem.call (Value.ref 426) _) _ _ _); k_dflt ((refine' Call.use ?k1 ?k2 ?k3 ?k4 ?k5 ?k6 (sum_row2 ?hm ?hi ?hk ?he ?hg ?hlen ?hp) ?k7 ?k8 ?_; (case k1 => k_asm); (case k2 => k_asm); (case k3 => k_asm); (case k4 => k_asm); (case hm => k_mem); (case hi => assumption); (case hk => assumption); (case he => assumption); (case hg => assumption); (case hlen => omega); (case hp => omega); (case k5 => k_asm); (case k6 => exact rfl); (case k7 => first | ktr_room | decide | decide +kernel); (case k8 => first | ktr_units | decide | decide +kernel); intro r9 led9 h9 tk9 F9 N9 P9; obtain ⟨e9, e9b⟩ := P9; replace e9 := e9.symm; subst e9; refine Exists.elim e9b ?_; clear e9b; intro t9 e9b; subst e9b; (try dsimp only); (try k_fold)))) | ((with_reducible show wpAny _ _ (PySem.call (Value.ref 426) _) _ _ _); k_dflt ((refine' Call.use ?k1 ?k2 ?k3 ?k4 ?k5 ?k6 (sum_row1 ?hm ?hi ?he ?hg ?hlen ?hp) ?k7 ?k8 ?_; (case k1 => k_asm); (case k2 => k_asm); (case k3 => k_asm); (case k4 => k_asm); (case hm => k_mem); (case hi => assumption); (case he => assumption); (case hg => assumption); (case hlen => omega); (case hp => omega); (case k5 => k_asm); (case k6 => exact rfl); (case k7 => first | ktr_room | decide | decide +kernel); (case k8 => first | ktr_units | decide | decide +kernel); intro r9 led9 h9 tk9 F9 N9 P9; obtain ⟨e9, e9b⟩ := P9; replace e9 := e9.symm; subst e9; refine Exists.elim e9b ?_; clear e9b; intro t9 e9b; subst e9b; (try dsimp only); (try k_fold)))) | ((with_reducible show wpAny _ _ (PySem.call (Value.ref 426) _) _ _ _); k_dflt ((refine' Call.use ?k1 ?k2 ?k3 ?k4 ?k5 ?k6 (sum_row0 ?hm ?hi ?hg ?hlen ?hp) ?k7 ?k8 ?_; (case k1 => k_asm); (case k2 => k_asm); (case k3 => k_asm); (case k4 => k_asm); (case hm => k_mem); (case hi => assumption); (case hg => assumption); (case hlen => omega); (case hp => omega); (case k5 => k_asm); (case k6 => exact rfl); (case k7 => first | ktr_room | decide | decide +kernel); (case k8 => first | ktr_units | decide | decide +kernel); intro r9 led9 h9 tk9 F9 N9 P9; obtain ⟨e9, e9b⟩ := P9; replace e9 := e9.symm; subst e9; refine Exists.elim e9b ?_; clear e9b; intro t9 e9b; subst e9b; (try dsimp only); (try k_fold)))) | ((with_reducible show wpAny _ _ (PySem.call (Value.ref 419) _) _ _ _); k_dflt ((refine' Call.use ?k1 ?k2 ?k3 ?k4 ?k5 ?k6 (low_call ?hm ?hi ?hlen) ?k7 ?k8 ?_; (case k1 => k_asm); (case k2 => k_asm); (case k3 => k_asm); (case k4 => k_asm); (case hm => k_mem); (case hi => assumption); (case hlen => omega); (case k5 => k_asm); (case k6 => exact rfl); (case k7 => first | ktr_room | decide | decide +kernel); (case k8 => first | ktr_units | decide | decide +kernel); intro r9 led9 h9 tk9 F9 N9 P9; obtain ⟨a9, y9, m9, ms9, e9, e9b, i9, q9, w9⟩ := P9; subst e9; subst e9b; (try dsimp only); (try k_fold)))) | ((with_reducible show wpAny _ _ (PySem.call (Value.ref 407) _) _ _ _); k_dflt ((refine' Call.use ?k1 ?k2 ?k3 ?k4 ?k5 ?k6 (slope_call ?R) ?k7 ?k8 ?_; (case k1 => k_asm); (case k2 => k_asm); (case k3 => k_asm); (case k4 => k_asm); (case R => tb_rel); (case k5 => k_asm); (case k6 => exact rfl); (case k7 => first | ktr_room | decide | decide +kernel); (case k8 => first | ktr_units | decide | decide +kernel); intro r9 led9 h9 tk9 F9 N9 P9; obtain ⟨tl9, e9, T9, R9⟩ := P9; subst e9; (try simp only [List.cons_append, List.append_assoc] at N9 R9); (try dsimp only); (try k_fold)))) | ((with_reducible show wpAny _ _ (PySem.call (Value.ref 433) _) _ _ _); k_dflt ((refine' Call.use ?k1 ?k2 ?k3 ?k4 ?k5 ?k6 (at_call ?R ?hT ?hw) ?k7 ?k8 ?_; (case k1 => k_asm); (case k2 => k_asm); (case k3 => k_asm); (case k4 => k_asm); (case R => tb_rel); (case hT => assumption); (case hw => assumption); (case k5 => k_asm); (case k6 => exact rfl); (case k7 => first | ktr_room | decide | decide +kernel); (case k8 => first | ktr_units | decide | decide +kernel); intro r9 led9 h9 tk9 F9 N9 P9; obtain ⟨e9, e9b⟩ := P9; replace e9 := e9.symm; subst e9; refine Exists.elim e9b ?_; clear e9b; intro t9 e9b; subst e9b; (try dsimp only); (try k_fold)))) | walk1) | (leave1; walk_say "STEP leave1"; try dsimp only) | fail "no step")
  (rename News _ _ _ _ => N9)
  replace N9 := news_tail N9
  k_dflt ((refine' Call.use ?k1 ?k2 ?k3 ?k4 ?k5 ?k6 (tree_call (rest := []) ?ci ?clen ?c0 ?c1 ?cne ?cr) ?k7 ?k8 ?_; (case k1 => k_asm); (case k2 => k_asm); (case k3 => k_asm); (case k4 => k_asm); (case ci => assumption); (case clen => omega); (case c0 => omega); (case c1 => omega); (case cne => k_ne); (case cr => exact List.forall_mem_nil _); (case k5 => k_asm); (case k6 => exact rfl); (case k7 => first | ktr_room | decide | decide +kernel); (case k8 => first | ktr_units | decide | decide +kernel); intro r9 led9 h9 tk9 F9 N9 P9; obtain ⟨T, hl5, hok, hR⟩ := P9; (try dsimp only); (try k_fold)))
  have hsz := Tr.size_slope hl5
  repeat' ((fail_if_success (with_reducible show wpAny _ _ (PySem.call (Value.ref 407) _) _ _ _)); first | (k_unfold; (try dsimp only)) | (k_end; wrow_close) | ((with_reducible show wpAny _ _ (PySem.call (Value.ref 426) _) _ _ _); k_dflt ((refine' Call.use ?k1 ?k2 ?k3 ?k4 ?k5 ?k6 (sum_row2 ?hm ?hi ?hk ?he ?hg ?hlen ?hp) ?k7 ?k8 ?_; (case k1 => k_asm); (case k2 => k_asm); (case k3 => k_asm); (case k4 => k_asm); (case hm => k_mem); (case hi => assumption); (case hk => assumption); (case he => assumption); (case hg => assumption); (case hlen => omega); (case hp => omega); (case k5 => k_asm); (case k6 => exact rfl); (case k7 => first | ktr_room | decide | decide +kernel); (case k8 => first | ktr_units | decide | decide +kernel); intro r9 led9 h9 tk9 F9 N9 P9; obtain ⟨e9, e9b⟩ := P9; replace e9 := e9.symm; subst e9; refine Exists.elim e9b ?_; clear e9b; intro t9 e9b; subst e9b; (try dsimp only); (try k_fold)))) | ((with_reducible show wpAny _ _ (PySem.call (Value.ref 426) _) _ _ _); k_dflt ((refine' Call.use ?k1 ?k2 ?k3 ?k4 ?k5 ?k6 (sum_row1 ?hm ?hi ?he ?hg ?hlen ?hp) ?k7 ?k8 ?_; (case k1 => k_asm); (case k2 => k_asm); (case k3 => k_asm); (case k4 => k_asm); (case hm => k_mem); (case hi => assumption); (case he => assumption); (case hg => assumption); (case hlen => omega); (case hp => omega); (case k5 => k_asm); (case k6 => exact rfl); (case k7 => first | ktr_room | decide | decide +kernel); (case k8 => first | ktr_units | decide | decide +kernel); intro r9 led9 h9 tk9 F9 N9 P9; obtain ⟨e9, e9b⟩ := P9; replace e9 := e9.symm; subst e9; refine Exists.elim e9b ?_; clear e9b; intro t9 e9b; subst e9b; (try dsimp only); (try k_fold)))) | ((with_reducible show wpAny _ _ (PySem.call (Value.ref 426) _) _ _ _); k_dflt ((refine' Call.use ?k1 ?k2 ?k3 ?k4 ?k5 ?k6 (sum_row0 ?hm ?hi ?hg ?hlen ?hp) ?k7 ?k8 ?_; (case k1 => k_asm); (case k2 => k_asm); (case k3 => k_asm); (case k4 => k_asm); (case hm => k_mem); (case hi => assumption); (case hg => assumption); (case hlen => omega); (case hp => omega); (case k5 => k_asm); (case k6 => exact rfl); (case k7 => first | ktr_room | decide | decide +kernel); (case k8 => first | ktr_units | decide | decide +kernel); intro r9 led9 h9 tk9 F9 N9 P9; obtain ⟨e9, e9b⟩ := P9; replace e9 := e9.symm; subst e9; refine Exists.elim e9b ?_; clear e9b; intro t9 e9b; subst e9b; (try dsimp only); (try k_fold)))) | ((with_reducible show wpAny _ _ (PySem.call (Value.ref 419) _) _ _ _); k_dflt ((refine' Call.use ?k1 ?k2 ?k3 ?k4 ?k5 ?k6 (low_call ?hm ?hi ?hlen) ?k7 ?k8 ?_; (case k1 => k_asm); (case k2 => k_asm); (case k3 => k_asm); (case k4 => k_asm); (case hm => k_mem); (case hi => assumption); (case hlen => omega); (case k5 => k_asm); (case k6 => exact rfl); (case k7 => first | ktr_room | decide | decide +kernel); (case k8 => first | ktr_units | decide | decide +kernel); intro r9 led9 h9 tk9 F9 N9 P9; obtain ⟨a9, y9, m9, ms9, e9, e9b, i9, q9, w9⟩ := P9; subst e9; subst e9b; (try dsimp only); (try k_fold)))) | ((with_reducible show wpAny _ _ (PySem.call (Value.ref 407) _) _ _ _); k_dflt ((refine' Call.use ?k1 ?k2 ?k3 ?k4 ?k5 ?k6 (slope_call ?R) ?k7 ?k8 ?_; (case k1 => k_asm); (case k2 => k_asm); (case k3 => k_asm); (case k4 => k_asm); (case R => tb_rel); (case k5 => k_asm); (case k6 => exact rfl); (case k7 => first | ktr_room | decide | decide +kernel); (case k8 => first | ktr_units | decide | decide +kernel); intro r9 led9 h9 tk9 F9 N9 P9; obtain ⟨tl9, e9, T9, R9⟩ := P9; subst e9; (try simp only [List.cons_append, List.append_assoc] at N9 R9); (try dsimp only); (try k_fold)))) | ((with_reducible show wpAny _ _ (PySem.call (Value.ref 433) _) _ _ _); k_dflt ((refine' Call.use ?k1 ?k2 ?k3 ?k4 ?k5 ?k6 (at_call ?R ?hT ?hw) ?k7 ?k8 ?_; (case k1 => k_asm); (case k2 => k_asm); (case k3 => k_asm); (case k4 => k_asm); (case R => tb_rel); (case hT => assumption); (case hw => assumption); (case k5 => k_asm); (case k6 => exact rfl); (case k7 => first | ktr_room | decide | decide +kernel); (case k8 => first | ktr_units | decide | decide +kernel); intro r9 led9 h9 tk9 F9 N9 P9; obtain ⟨e9, e9b⟩ := P9; replace e9 := e9.symm; subst e9; refine Exists.elim e9b ?_; clear e9b; intro t9 e9b; subst e9b; (try dsimp only); (try k_fold)))) | walk1 | (dsimp only; first | ((with_reducible show wpAny _ _ (PySem.call (Value.ref 426) _) _ _ _); k_dflt ((refine' Call.use ?k1 ?k2 ?k3 ?k4 ?k5 ?k6 (sum_row2 ?hm ?hi ?hk ?he ?hg ?hlen ?hp) ?k7 ?k8 ?_; (case k1 => k_asm); (case k2 => k_asm); (case k3 => k_asm); (case k4 => k_asm); (case hm => k_mem); (case hi => assumption); (case hk => assumption); (case he => assumption); (case hg => assumption); (case hlen => omega); (case hp => omega); (case k5 => k_asm); (case k6 => exact rfl); (case k7 => first | ktr_room | decide | decide +kernel); (case k8 => first | ktr_units | decide | decide +kernel); intro r9 led9 h9 tk9 F9 N9 P9; obtain ⟨e9, e9b⟩ := P9; replace e9 := e9.symm; subst e9; refine Exists.elim e9b ?_; clear e9b; intro t9 e9b; subst e9b; (try dsimp only); (try k_fold)))) | ((with_reducible show wpAny _ _ (PySem.call (Value.ref 426) _) _ _ _); k_dflt ((refine' Call.use ?k1 ?k2 ?k3 ?k4 ?k5 ?k6 (sum_row1 ?hm ?hi ?he ?hg ?hlen ?hp) ?k7 ?k8 ?_; (case k1 => k_asm); (case k2 => k_asm); (case k3 => k_asm); (case k4 => k_asm); (case hm => k_mem); (case hi => assumption); (case he => assumption); (case hg => assumption); (case hlen => omega); (case hp => omega); (case k5 => k_asm); (case k6 => exact rfl); (case k7 => first | ktr_room | decide | decide +kernel); (case k8 => first | ktr_units | decide | decide +kernel); intro r9 led9 h9 tk9 F9 N9 P9; obtain ⟨e9, e9b⟩ := P9; replace e9 := e9.symm; subst e9; refine Exists.elim e9b ?_; clear e9b; intro t9 e9b; subst e9b; (try dsimp only); (try k_fold)))) | ((with_reducible show wpAny _ _ (PySem.call (Value.ref 426) _) _ _ _); k_dflt ((refine' Call.use ?k1 ?k2 ?k3 ?k4 ?k5 ?k6 (sum_row0 ?hm ?hi ?hg ?hlen ?hp) ?k7 ?k8 ?_; (case k1 => k_asm); (case k2 => k_asm); (case k3 => k_asm); (case k4 => k_asm); (case hm => k_mem); (case hi => assumption); (case hg => assumption); (case hlen => omega); (case hp => omega); (case k5 => k_asm); (case k6 => exact rfl); (case k7 => first | ktr_room | decide | decide +kernel); (case k8 => first | ktr_units | decide | decide +kernel); intro r9 led9 h9 tk9 F9 N9 P9; obtain ⟨e9, e9b⟩ := P9; replace e9 := e9.symm; subst e9; refine Exists.elim e9b ?_; clear e9b; intro t9 e9b; subst e9b; (try dsimp only); (try k_fold)))) | ((with_reducible show wpAny _ _ (PySem.call (Value.ref 419) _) _ _ _); k_dflt ((refine' Call.use ?k1 ?k2 ?k3 ?k4 ?k5 ?k6 (low_call ?hm ?hi ?hlen) ?k7 ?k8 ?_; (case k1 => k_asm); (case k2 => k_asm); (case k3 => k_asm); (case k4 => k_asm); (case hm => k_mem); (case hi => assumption); (case hlen => omega); (case k5 => k_asm); (case k6 => exact rfl); (case k7 => first | ktr_room | decide | decide +kernel); (case k8 => first | ktr_units | decide | decide +kernel); intro r9 led9 h9 tk9 F9 N9 P9; obtain ⟨a9, y9, m9, ms9, e9, e9b, i9, q9, w9⟩ := P9; subst e9; subst e9b; (try dsimp only); (try k_fold)))) | ((with_reducible show wpAny _ _ (PySem.call (Value.ref 407) _) _ _ _); k_dflt ((refine' Call.use ?k1 ?k2 ?k3 ?k4 ?k5 ?k6 (slope_call ?R) ?k7 ?k8 ?_; (case k1 => k_asm); (case k2 => k_asm); (case k3 => k_asm); (case k4 => k_asm); (case R => tb_rel); (case k5 => k_asm); (case k6 => exact rfl); (case k7 => first | ktr_room | decide | decide +kernel); (case k8 => first | ktr_units | decide | decide +kernel); intro r9 led9 h9 tk9 F9 N9 P9; obtain ⟨tl9, e9, T9, R9⟩ := P9; subst e9; (try simp only [List.cons_append, List.append_assoc] at N9 R9); (try dsimp only); (try k_fold)))) | ((with_reducible show wpAny _ _ (PySem.call (Value.ref 433) _) _ _ _); k_dflt ((refine' Call.use ?k1 ?k2 ?k3 ?k4 ?k5 ?k6 (at_call ?R ?hT ?hw) ?k7 ?k8 ?_; (case k1 => k_asm); (case k2 => k_asm); (case k3 => k_asm); (case k4 => k_asm); (case R => tb_rel); (case hT => assumption); (case hw => assumption); (case k5 => k_asm); (case k6 => exact rfl); (case k7 => first | ktr_room | decide | decide +kernel); (case k8 => first | ktr_units | decide | decide +kernel); intro r9 led9 h9 tk9 F9 N9 P9; obtain ⟨e9, e9b⟩ := P9; replace e9 := e9.symm; subst e9; refine Exists.elim e9b ?_; clear e9b; intro t9 e9b; subst e9b; (try dsimp only); (try k_fold)))) | walk1) | (leave1; walk_say "STEP leave1"; try dsimp only) | fail "no step")
  k_dflt ((refine' Call.use ?k1 ?k2 ?k3 ?k4 ?k5 ?k6 (slope_call ?R) ?k7 ?k8 ?_; (case k1 => k_asm); (case k2 => k_asm); (case k3 => k_asm); (case k4 => k_asm); (case R => tb_rel); (case k5 => k_asm); (case k6 => exact rfl); (case k7 => first | ktr_room | decide | decide +kernel); (case k8 => first | ktr_units | decide | decide +kernel); intro r9 led9 h9 tk9 F9 N9 P9; obtain ⟨tl9, e9, T9, R9⟩ := P9; subst e9; (try dsimp only); (try k_fold)))
  repeat' ((fail_if_success (with_reducible show wpAny _ _ (PySem.call (Value.ref 414) _) _ _ _)); first | (k_unfold; (try dsimp only)) | (k_end; wrow_close) | ((with_reducible show wpAny _ _ (PySem.call (Value.ref 426) _) _ _ _); k_dflt ((refine' Call.use ?k1 ?k2 ?k3 ?k4 ?k5 ?k6 (sum_row2 ?hm ?hi ?hk ?he ?hg ?hlen ?hp) ?k7 ?k8 ?_; (case k1 => k_asm); (case k2 => k_asm); (case k3 => k_asm); (case k4 => k_asm); (case hm => k_mem); (case hi => assumption); (case hk => assumption); (case he => assumption); (case hg => assumption); (case hlen => omega); (case hp => omega); (case k5 => k_asm); (case k6 => exact rfl); (case k7 => first | ktr_room | decide | decide +kernel); (case k8 => first | ktr_units | decide | decide +kernel); intro r9 led9 h9 tk9 F9 N9 P9; obtain ⟨e9, e9b⟩ := P9; replace e9 := e9.symm; subst e9; refine Exists.elim e9b ?_; clear e9b; intro t9 e9b; subst e9b; (try dsimp only); (try k_fold)))) | ((with_reducible show wpAny _ _ (PySem.call (Value.ref 426) _) _ _ _); k_dflt ((refine' Call.use ?k1 ?k2 ?k3 ?k4 ?k5 ?k6 (sum_row1 ?hm ?hi ?he ?hg ?hlen ?hp) ?k7 ?k8 ?_; (case k1 => k_asm); (case k2 => k_asm); (case k3 => k_asm); (case k4 => k_asm); (case hm => k_mem); (case hi => assumption); (case he => assumption); (case hg => assumption); (case hlen => omega); (case hp => omega); (case k5 => k_asm); (case k6 => exact rfl); (case k7 => first | ktr_room | decide | decide +kernel); (case k8 => first | ktr_units | decide | decide +kernel); intro r9 led9 h9 tk9 F9 N9 P9; obtain ⟨e9, e9b⟩ := P9; replace e9 := e9.symm; subst e9; refine Exists.elim e9b ?_; clear e9b; intro t9 e9b; subst e9b; (try dsimp only); (try k_fold)))) | ((with_reducible show wpAny _ _ (PySem.call (Value.ref 426) _) _ _ _); k_dflt ((refine' Call.use ?k1 ?k2 ?k3 ?k4 ?k5 ?k6 (sum_row0 ?hm ?hi ?hg ?hlen ?hp) ?k7 ?k8 ?_; (case k1 => k_asm); (case k2 => k_asm); (case k3 => k_asm); (case k4 => k_asm); (case hm => k_mem); (case hi => assumption); (case hg => assumption); (case hlen => omega); (case hp => omega); (case k5 => k_asm); (case k6 => exact rfl); (case k7 => first | ktr_room | decide | decide +kernel); (case k8 => first | ktr_units | decide | decide +kernel); intro r9 led9 h9 tk9 F9 N9 P9; obtain ⟨e9, e9b⟩ := P9; replace e9 := e9.symm; subst e9; refine Exists.elim e9b ?_; clear e9b; intro t9 e9b; subst e9b; (try dsimp only); (try k_fold)))) | ((with_reducible show wpAny _ _ (PySem.call (Value.ref 419) _) _ _ _); k_dflt ((refine' Call.use ?k1 ?k2 ?k3 ?k4 ?k5 ?k6 (low_call ?hm ?hi ?hlen) ?k7 ?k8 ?_; (case k1 => k_asm); (case k2 => k_asm); (case k3 => k_asm); (case k4 => k_asm); (case hm => k_mem); (case hi => assumption); (case hlen => omega); (case k5 => k_asm); (case k6 => exact rfl); (case k7 => first | ktr_room | decide | decide +kernel); (case k8 => first | ktr_units | decide | decide +kernel); intro r9 led9 h9 tk9 F9 N9 P9; obtain ⟨a9, y9, m9, ms9, e9, e9b, i9, q9, w9⟩ := P9; subst e9; subst e9b; (try dsimp only); (try k_fold)))) | ((with_reducible show wpAny _ _ (PySem.call (Value.ref 407) _) _ _ _); k_dflt ((refine' Call.use ?k1 ?k2 ?k3 ?k4 ?k5 ?k6 (slope_call ?R) ?k7 ?k8 ?_; (case k1 => k_asm); (case k2 => k_asm); (case k3 => k_asm); (case k4 => k_asm); (case R => tb_rel); (case k5 => k_asm); (case k6 => exact rfl); (case k7 => first | ktr_room | decide | decide +kernel); (case k8 => first | ktr_units | decide | decide +kernel); intro r9 led9 h9 tk9 F9 N9 P9; obtain ⟨tl9, e9, T9, R9⟩ := P9; subst e9; (try simp only [List.cons_append, List.append_assoc] at N9 R9); (try dsimp only); (try k_fold)))) | ((with_reducible show wpAny _ _ (PySem.call (Value.ref 433) _) _ _ _); k_dflt ((refine' Call.use ?k1 ?k2 ?k3 ?k4 ?k5 ?k6 (at_call ?R ?hT ?hw) ?k7 ?k8 ?_; (case k1 => k_asm); (case k2 => k_asm); (case k3 => k_asm); (case k4 => k_asm); (case R => tb_rel); (case hT => assumption); (case hw => assumption); (case k5 => k_asm); (case k6 => exact rfl); (case k7 => first | ktr_room | decide | decide +kernel); (case k8 => first | ktr_units | decide | decide +kernel); intro r9 led9 h9 tk9 F9 N9 P9; obtain ⟨e9, e9b⟩ := P9; replace e9 := e9.symm; subst e9; refine Exists.elim e9b ?_; clear e9b; intro t9 e9b; subst e9b; (try dsimp only); (try k_fold)))) | walk1 | (dsimp only; first | ((with_reducible show wpAny _ _ (PySem.call (Value.ref 426) _) _ _ _); k_dflt ((refine' Call.use ?k1 ?k2 ?k3 ?k4 ?k5 ?k6 (sum_row2 ?hm ?hi ?hk ?he ?hg ?hlen ?hp) ?k7 ?k8 ?_; (case k1 => k_asm); (case k2 => k_asm); (case k3 => k_asm); (case k4 => k_asm); (case hm => k_mem); (case hi => assumption); (case hk => assumption); (case he => assumption); (case hg => assumption); (case hlen => omega); (case hp => omega); (case k5 => k_asm); (case k6 => exact rfl); (case k7 => first | ktr_room | decide | decide +kernel); (case k8 => first | ktr_units | decide | decide +kernel); intro r9 led9 h9 tk9 F9 N9 P9; obtain ⟨e9, e9b⟩ := P9; replace e9 := e9.symm; subst e9; refine Exists.elim e9b ?_; clear e9b; intro t9 e9b; subst e9b; (try dsimp only); (try k_fold)))) | ((with_reducible show wpAny _ _ (PySem.call (Value.ref 426) _) _ _ _); k_dflt ((refine' Call.use ?k1 ?k2 ?k3 ?k4 ?k5 ?k6 (sum_row1 ?hm ?hi ?he ?hg ?hlen ?hp) ?k7 ?k8 ?_; (case k1 => k_asm); (case k2 => k_asm); (case k3 => k_asm); (case k4 => k_asm); (case hm => k_mem); (case hi => assumption); (case he => assumption); (case hg => assumption); (case hlen => omega); (case hp => omega); (case k5 => k_asm); (case k6 => exact rfl); (case k7 => first | ktr_room | decide | decide +kernel); (case k8 => first | ktr_units | decide | decide +kernel); intro r9 led9 h9 tk9 F9 N9 P9; obtain ⟨e9, e9b⟩ := P9; replace e9 := e9.symm; subst e9; refine Exists.elim e9b ?_; clear e9b; intro t9 e9b; subst e9b; (try dsimp only); (try k_fold)))) | ((with_reducible show wpAny _ _ (PySem.call (Value.ref 426) _) _ _ _); k_dflt ((refine' Call.use ?k1 ?k2 ?k3 ?k4 ?k5 ?k6 (sum_row0 ?hm ?hi ?hg ?hlen ?hp) ?k7 ?k8 ?_; (case k1 => k_asm); (case k2 => k_asm); (case k3 => k_asm); (case k4 => k_asm); (case hm => k_mem); (case hi => assumption); (case hg => assumption); (case hlen => omega); (case hp => omega); (case k5 => k_asm); (case k6 => exact rfl); (case k7 => first | ktr_room | decide | decide +kernel); (case k8 => first | ktr_units | decide | decide +kernel); intro r9 led9 h9 tk9 F9 N9 P9; obtain ⟨e9, e9b⟩ := P9; replace e9 := e9.symm; subst e9; refine Exists.elim e9b ?_; clear e9b; intro t9 e9b; subst e9b; (try dsimp only); (try k_fold)))) | ((with_reducible show wpAny _ _ (PySem.call (Value.ref 419) _) _ _ _); k_dflt ((refine' Call.use ?k1 ?k2 ?k3 ?k4 ?k5 ?k6 (low_call ?hm ?hi ?hlen) ?k7 ?k8 ?_; (case k1 => k_asm); (case k2 => k_asm); (case k3 => k_asm); (case k4 => k_asm); (case hm => k_mem); (case hi => assumption); (case hlen => omega); (case k5 => k_asm); (case k6 => exact rfl); (case k7 => first | ktr_room | decide | decide +kernel); (case k8 => first | ktr_units | decide | decide +kernel); intro r9 led9 h9 tk9 F9 N9 P9; obtain ⟨a9, y9, m9, ms9, e9, e9b, i9, q9, w9⟩ := P9; subst e9; subst e9b; (try dsimp only); (try k_fold)))) | ((with_reducible show wpAny _ _ (PySem.call (Value.ref 407) _) _ _ _); k_dflt ((refine' Call.use ?k1 ?k2 ?k3 ?k4 ?k5 ?k6 (slope_call ?R) ?k7 ?k8 ?_; (case k1 => k_asm); (case k2 => k_asm); (case k3 => k_asm); (case k4 => k_asm); (case R => tb_rel); (case k5 => k_asm); (case k6 => exact rfl); (case k7 => first | ktr_room | decide | decide +kernel); (case k8 => first | ktr_units | decide | decide +kernel); intro r9 led9 h9 tk9 F9 N9 P9; obtain ⟨tl9, e9, T9, R9⟩ := P9; subst e9; (try simp only [List.cons_append, List.append_assoc] at N9 R9); (try dsimp only); (try k_fold)))) | ((with_reducible show wpAny _ _ (PySem.call (Value.ref 433) _) _ _ _); k_dflt ((refine' Call.use ?k1 ?k2 ?k3 ?k4 ?k5 ?k6 (at_call ?R ?hT ?hw) ?k7 ?k8 ?_; (case k1 => k_asm); (case k2 => k_asm); (case k3 => k_asm); (case k4 => k_asm); (case R => tb_rel); (case hT => assumption); (case hw => assumption); (case k5 => k_asm); (case k6 => exact rfl); (case k7 => first | ktr_room | decide | decide +kernel); (case k8 => first | ktr_units | decide | decide +kernel); intro r9 led9 h9 tk9 F9 N9 P9; obtain ⟨e9, e9b⟩ := P9; replace e9 := e9.symm; subst e9; refine Exists.elim e9b ?_; clear e9b; intro t9 e9b; subst e9b; (try dsimp only); (try k_fold)))) | walk1) | (leave1; walk_say "STEP leave1"; try dsimp only) | fail "no step")
  k_dflt ((refine' Call.use ?k1 ?k2 ?k3 ?k4 ?k5 ?k6 (row_call ?R ?hk ?hl) ?k7 ?k8 ?_; (case k1 => k_asm); (case k2 => k_asm); (case k3 => k_asm); (case k4 => k_asm); (case R => tb_rel); (case hk => assumption); (case hl => omega); (case k5 => k_asm); (case k6 => exact rfl); (case k7 => first | ktr_room | decide | decide +kernel); (case k8 => first | ktr_units | decide | decide +kernel); intro r9 led9 h9 tk9 F9 N9 P9; obtain ⟨aR, yR, mR, e9, e9b, lR, nR, iR, gR, fR⟩ := P9; subst e9; subst e9b; (try dsimp only); (try k_fold)))
  have hln := Tr.len_le T
  obtain ⟨hw0, hw1, hw2⟩ := Tr.ws hl5
  obtain ⟨hf0, hf1, hf2⟩ := Tr.fits hok hl5 (p := place) ⟨by omega, by omega⟩
  obtain ⟨hp0, hp1, hp2⟩ := Tr.fits hok hl5 (p := place + (2 + st)) ⟨by omega, by omega⟩
  obtain ⟨hm0, hm1, hm2⟩ := Tr.fits hok hl5 (p := place - (2 + st)) ⟨by omega, by omega⟩
  repeat' ((fail_if_success (with_reducible show wpAny _ _ (PySem.call (Value.ref 241) _) _ _ _)); first | (k_unfold; (try dsimp only)) | (k_end; wrow_close) | ((with_reducible show wpAny _ _ (PySem.call (Value.ref 426) _) _ _ _); k_dflt ((refine' Call.use ?k1 ?k2 ?k3 ?k4 ?k5 ?k6 (sum_row2 ?hm ?hi ?hk ?he ?hg ?hlen ?hp) ?k7 ?k8 ?_; (case k1 => k_asm); (case k2 => k_asm); (case k3 => k_asm); (case k4 => k_asm); (case hm => k_mem); (case hi => assumption); (case hk => assumption); (case he => assumption); (case hg => assumption); (case hlen => omega); (case hp => omega); (case k5 => k_asm); (case k6 => exact rfl); (case k7 => first | ktr_room | decide | decide +kernel); (case k8 => first | ktr_units | decide | decide +kernel); intro r9 led9 h9 tk9 F9 N9 P9; obtain ⟨e9, e9b⟩ := P9; replace e9 := e9.symm; subst e9; refine Exists.elim e9b ?_; clear e9b; intro t9 e9b; subst e9b; (try dsimp only); (try k_fold)))) | ((with_reducible show wpAny _ _ (PySem.call (Value.ref 426) _) _ _ _); k_dflt ((refine' Call.use ?k1 ?k2 ?k3 ?k4 ?k5 ?k6 (sum_row1 ?hm ?hi ?he ?hg ?hlen ?hp) ?k7 ?k8 ?_; (case k1 => k_asm); (case k2 => k_asm); (case k3 => k_asm); (case k4 => k_asm); (case hm => k_mem); (case hi => assumption); (case he => assumption); (case hg => assumption); (case hlen => omega); (case hp => omega); (case k5 => k_asm); (case k6 => exact rfl); (case k7 => first | ktr_room | decide | decide +kernel); (case k8 => first | ktr_units | decide | decide +kernel); intro r9 led9 h9 tk9 F9 N9 P9; obtain ⟨e9, e9b⟩ := P9; replace e9 := e9.symm; subst e9; refine Exists.elim e9b ?_; clear e9b; intro t9 e9b; subst e9b; (try dsimp only); (try k_fold)))) | ((with_reducible show wpAny _ _ (PySem.call (Value.ref 426) _) _ _ _); k_dflt ((refine' Call.use ?k1 ?k2 ?k3 ?k4 ?k5 ?k6 (sum_row0 ?hm ?hi ?hg ?hlen ?hp) ?k7 ?k8 ?_; (case k1 => k_asm); (case k2 => k_asm); (case k3 => k_asm); (case k4 => k_asm); (case hm => k_mem); (case hi => assumption); (case hg => assumption); (case hlen => omega); (case hp => omega); (case k5 => k_asm); (case k6 => exact rfl); (case k7 => first | ktr_room | decide | decide +kernel); (case k8 => first | ktr_units | decide | decide +kernel); intro r9 led9 h9 tk9 F9 N9 P9; obtain ⟨e9, e9b⟩ := P9; replace e9 := e9.symm; subst e9; refine Exists.elim e9b ?_; clear e9b; intro t9 e9b; subst e9b; (try dsimp only); (try k_fold)))) | ((with_reducible show wpAny _ _ (PySem.call (Value.ref 419) _) _ _ _); k_dflt ((refine' Call.use ?k1 ?k2 ?k3 ?k4 ?k5 ?k6 (low_call ?hm ?hi ?hlen) ?k7 ?k8 ?_; (case k1 => k_asm); (case k2 => k_asm); (case k3 => k_asm); (case k4 => k_asm); (case hm => k_mem); (case hi => assumption); (case hlen => omega); (case k5 => k_asm); (case k6 => exact rfl); (case k7 => first | ktr_room | decide | decide +kernel); (case k8 => first | ktr_units | decide | decide +kernel); intro r9 led9 h9 tk9 F9 N9 P9; obtain ⟨a9, y9, m9, ms9, e9, e9b, i9, q9, w9⟩ := P9; subst e9; subst e9b; (try dsimp only); (try k_fold)))) | ((with_reducible show wpAny _ _ (PySem.call (Value.ref 407) _) _ _ _); k_dflt ((refine' Call.use ?k1 ?k2 ?k3 ?k4 ?k5 ?k6 (slope_call ?R) ?k7 ?k8 ?_; (case k1 => k_asm); (case k2 => k_asm); (case k3 => k_asm); (case k4 => k_asm); (case R => tb_rel); (case k5 => k_asm); (case k6 => exact rfl); (case k7 => first | ktr_room | decide | decide +kernel); (case k8 => first | ktr_units | decide | decide +kernel); intro r9 led9 h9 tk9 F9 N9 P9; obtain ⟨tl9, e9, T9, R9⟩ := P9; subst e9; (try simp only [List.cons_append, List.append_assoc] at N9 R9); (try dsimp only); (try k_fold)))) | ((with_reducible show wpAny _ _ (PySem.call (Value.ref 433) _) _ _ _); k_dflt ((refine' Call.use ?k1 ?k2 ?k3 ?k4 ?k5 ?k6 (at_call ?R ?hT ?hw) ?k7 ?k8 ?_; (case k1 => k_asm); (case k2 => k_asm); (case k3 => k_asm); (case k4 => k_asm); (case R => tb_rel); (case hT => assumption); (case hw => assumption); (case k5 => k_asm); (case k6 => exact rfl); (case k7 => first | ktr_room | decide | decide +kernel); (case k8 => first | ktr_units | decide | decide +kernel); intro r9 led9 h9 tk9 F9 N9 P9; obtain ⟨e9, e9b⟩ := P9; replace e9 := e9.symm; subst e9; refine Exists.elim e9b ?_; clear e9b; intro t9 e9b; subst e9b; (try dsimp only); (try k_fold)))) | walk1 | (dsimp only; first | ((with_reducible show wpAny _ _ (PySem.call (Value.ref 426) _) _ _ _); k_dflt ((refine' Call.use ?k1 ?k2 ?k3 ?k4 ?k5 ?k6 (sum_row2 ?hm ?hi ?hk ?he ?hg ?hlen ?hp) ?k7 ?k8 ?_; (case k1 => k_asm); (case k2 => k_asm); (case k3 => k_asm); (case k4 => k_asm); (case hm => k_mem); (case hi => assumption); (case hk => assumption); (case he => assumption); (case hg => assumption); (case hlen => omega); (case hp => omega); (case k5 => k_asm); (case k6 => exact rfl); (case k7 => first | ktr_room | decide | decide +kernel); (case k8 => first | ktr_units | decide | decide +kernel); intro r9 led9 h9 tk9 F9 N9 P9; obtain ⟨e9, e9b⟩ := P9; replace e9 := e9.symm; subst e9; refine Exists.elim e9b ?_; clear e9b; intro t9 e9b; subst e9b; (try dsimp only); (try k_fold)))) | ((with_reducible show wpAny _ _ (PySem.call (Value.ref 426) _) _ _ _); k_dflt ((refine' Call.use ?k1 ?k2 ?k3 ?k4 ?k5 ?k6 (sum_row1 ?hm ?hi ?he ?hg ?hlen ?hp) ?k7 ?k8 ?_; (case k1 => k_asm); (case k2 => k_asm); (case k3 => k_asm); (case k4 => k_asm); (case hm => k_mem); (case hi => assumption); (case he => assumption); (case hg => assumption); (case hlen => omega); (case hp => omega); (case k5 => k_asm); (case k6 => exact rfl); (case k7 => first | ktr_room | decide | decide +kernel); (case k8 => first | ktr_units | decide | decide +kernel); intro r9 led9 h9 tk9 F9 N9 P9; obtain ⟨e9, e9b⟩ := P9; replace e9 := e9.symm; subst e9; refine Exists.elim e9b ?_; clear e9b; intro t9 e9b; subst e9b; (try dsimp only); (try k_fold)))) | ((with_reducible show wpAny _ _ (PySem.call (Value.ref 426) _) _ _ _); k_dflt ((refine' Call.use ?k1 ?k2 ?k3 ?k4 ?k5 ?k6 (sum_row0 ?hm ?hi ?hg ?hlen ?hp) ?k7 ?k8 ?_; (case k1 => k_asm); (case k2 => k_asm); (case k3 => k_asm); (case k4 => k_asm); (case hm => k_mem); (case hi => assumption); (case hg => assumption); (case hlen => omega); (case hp => omega); (case k5 => k_asm); (case k6 => exact rfl); (case k7 => first | ktr_room | decide | decide +kernel); (case k8 => first | ktr_units | decide | decide +kernel); intro r9 led9 h9 tk9 F9 N9 P9; obtain ⟨e9, e9b⟩ := P9; replace e9 := e9.symm; subst e9; refine Exists.elim e9b ?_; clear e9b; intro t9 e9b; subst e9b; (try dsimp only); (try k_fold)))) | ((with_reducible show wpAny _ _ (PySem.call (Value.ref 419) _) _ _ _); k_dflt ((refine' Call.use ?k1 ?k2 ?k3 ?k4 ?k5 ?k6 (low_call ?hm ?hi ?hlen) ?k7 ?k8 ?_; (case k1 => k_asm); (case k2 => k_asm); (case k3 => k_asm); (case k4 => k_asm); (case hm => k_mem); (case hi => assumption); (case hlen => omega); (case k5 => k_asm); (case k6 => exact rfl); (case k7 => first | ktr_room | decide | decide +kernel); (case k8 => first | ktr_units | decide | decide +kernel); intro r9 led9 h9 tk9 F9 N9 P9; obtain ⟨a9, y9, m9, ms9, e9, e9b, i9, q9, w9⟩ := P9; subst e9; subst e9b; (try dsimp only); (try k_fold)))) | ((with_reducible show wpAny _ _ (PySem.call (Value.ref 407) _) _ _ _); k_dflt ((refine' Call.use ?k1 ?k2 ?k3 ?k4 ?k5 ?k6 (slope_call ?R) ?k7 ?k8 ?_; (case k1 => k_asm); (case k2 => k_asm); (case k3 => k_asm); (case k4 => k_asm); (case R => tb_rel); (case k5 => k_asm); (case k6 => exact rfl); (case k7 => first | ktr_room | decide | decide +kernel); (case k8 => first | ktr_units | decide | decide +kernel); intro r9 led9 h9 tk9 F9 N9 P9; obtain ⟨tl9, e9, T9, R9⟩ := P9; subst e9; (try simp only [List.cons_append, List.append_assoc] at N9 R9); (try dsimp only); (try k_fold)))) | ((with_reducible show wpAny _ _ (PySem.call (Value.ref 433) _) _ _ _); k_dflt ((refine' Call.use ?k1 ?k2 ?k3 ?k4 ?k5 ?k6 (at_call ?R ?hT ?hw) ?k7 ?k8 ?_; (case k1 => k_asm); (case k2 => k_asm); (case k3 => k_asm); (case k4 => k_asm); (case R => tb_rel); (case hT => assumption); (case hw => assumption); (case k5 => k_asm); (case k6 => exact rfl); (case k7 => first | ktr_room | decide | decide +kernel); (case k8 => first | ktr_units | decide | decide +kernel); intro r9 led9 h9 tk9 F9 N9 P9; obtain ⟨e9, e9b⟩ := P9; replace e9 := e9.symm; subst e9; refine Exists.elim e9b ?_; clear e9b; intro t9 e9b; subst e9b; (try dsimp only); (try k_fold)))) | walk1) | (leave1; walk_say "STEP leave1"; try dsimp only) | fail "no step")
  obtain ⟨c1, c2, c3, mf1, mf2, mf3⟩ := mods_F hok hl5 (p := place) (st := st) ⟨by assumption, by assumption⟩ ⟨by assumption, by assumption⟩
  k_dflt ((refine' Call.use ?k1 ?k2 ?k3 ?k4 ?k5 ?k6 (mod_call ?hq) ?k7 ?k8 ?_; (case k1 => k_asm); (case k2 => k_asm); (case k3 => k_asm); (case k4 => k_asm); (case hq => with_reducible assumption); (case k5 => k_asm); (case k6 => exact rfl); (case k7 => first | ktr_room | decide | decide +kernel); (case k8 => first | ktr_units | decide | decide +kernel); intro r9 led9 h9 tk9 F9 N9 P9; obtain ⟨e9, e9b⟩ := P9; replace e9 := e9.symm; subst e9; refine Exists.elim e9b ?_; clear e9b; intro t9 e9b; subst e9b; (try dsimp only); (try k_fold)))
  repeat' ((fail_if_success (with_reducible show wpAny _ _ (PySem.call (Value.ref 241) _) _ _ _)); first | (k_unfold; (try dsimp only)) | (k_end; wrow_close) | ((with_reducible show wpAny _ _ (PySem.call (Value.ref 426) _) _ _ _); k_dflt ((refine' Call.use ?k1 ?k2 ?k3 ?k4 ?k5 ?k6 (sum_row2 ?hm ?hi ?hk ?he ?hg ?hlen ?hp) ?k7 ?k8 ?_; (case k1 => k_asm); (case k2 => k_asm); (case k3 => k_asm); (case k4 => k_asm); (case hm => k_mem); (case hi => assumption); (case hk => assumption); (case he => assumption); (case hg => assumption); (case hlen => omega); (case hp => omega); (case k5 => k_asm); (case k6 => exact rfl); (case k7 => first | ktr_room | decide | decide +kernel); (case k8 => first | ktr_units | decide | decide +kernel); intro r9 led9 h9 tk9 F9 N9 P9; obtain ⟨e9, e9b⟩ := P9; replace e9 := e9.symm; subst e9; refine Exists.elim e9b ?_; clear e9b; intro t9 e9b; subst e9b; (try dsimp only); (try k_fold)))) | ((with_reducible show wpAny _ _ (PySem.call (Value.ref 426) _) _ _ _); k_dflt ((refine' Call.use ?k1 ?k2 ?k3 ?k4 ?k5 ?k6 (sum_row1 ?hm ?hi ?he ?hg ?hlen ?hp) ?k7 ?k8 ?_; (case k1 => k_asm); (case k2 => k_asm); (case k3 => k_asm); (case k4 => k_asm); (case hm => k_mem); (case hi => assumption); (case he => assumption); (case hg => assumption); (case hlen => omega); (case hp => omega); (case k5 => k_asm); (case k6 => exact rfl); (case k7 => first | ktr_room | decide | decide +kernel); (case k8 => first | ktr_units | decide | decide +kernel); intro r9 led9 h9 tk9 F9 N9 P9; obtain ⟨e9, e9b⟩ := P9; replace e9 := e9.symm; subst e9; refine Exists.elim e9b ?_; clear e9b; intro t9 e9b; subst e9b; (try dsimp only); (try k_fold)))) | ((with_reducible show wpAny _ _ (PySem.call (Value.ref 426) _) _ _ _); k_dflt ((refine' Call.use ?k1 ?k2 ?k3 ?k4 ?k5 ?k6 (sum_row0 ?hm ?hi ?hg ?hlen ?hp) ?k7 ?k8 ?_; (case k1 => k_asm); (case k2 => k_asm); (case k3 => k_asm); (case k4 => k_asm); (case hm => k_mem); (case hi => assumption); (case hg => assumption); (case hlen => omega); (case hp => omega); (case k5 => k_asm); (case k6 => exact rfl); (case k7 => first | ktr_room | decide | decide +kernel); (case k8 => first | ktr_units | decide | decide +kernel); intro r9 led9 h9 tk9 F9 N9 P9; obtain ⟨e9, e9b⟩ := P9; replace e9 := e9.symm; subst e9; refine Exists.elim e9b ?_; clear e9b; intro t9 e9b; subst e9b; (try dsimp only); (try k_fold)))) | ((with_reducible show wpAny _ _ (PySem.call (Value.ref 419) _) _ _ _); k_dflt ((refine' Call.use ?k1 ?k2 ?k3 ?k4 ?k5 ?k6 (low_call ?hm ?hi ?hlen) ?k7 ?k8 ?_; (case k1 => k_asm); (case k2 => k_asm); (case k3 => k_asm); (case k4 => k_asm); (case hm => k_mem); (case hi => assumption); (case hlen => omega); (case k5 => k_asm); (case k6 => exact rfl); (case k7 => first | ktr_room | decide | decide +kernel); (case k8 => first | ktr_units | decide | decide +kernel); intro r9 led9 h9 tk9 F9 N9 P9; obtain ⟨a9, y9, m9, ms9, e9, e9b, i9, q9, w9⟩ := P9; subst e9; subst e9b; (try dsimp only); (try k_fold)))) | ((with_reducible show wpAny _ _ (PySem.call (Value.ref 407) _) _ _ _); k_dflt ((refine' Call.use ?k1 ?k2 ?k3 ?k4 ?k5 ?k6 (slope_call ?R) ?k7 ?k8 ?_; (case k1 => k_asm); (case k2 => k_asm); (case k3 => k_asm); (case k4 => k_asm); (case R => tb_rel); (case k5 => k_asm); (case k6 => exact rfl); (case k7 => first | ktr_room | decide | decide +kernel); (case k8 => first | ktr_units | decide | decide +kernel); intro r9 led9 h9 tk9 F9 N9 P9; obtain ⟨tl9, e9, T9, R9⟩ := P9; subst e9; (try simp only [List.cons_append, List.append_assoc] at N9 R9); (try dsimp only); (try k_fold)))) | ((with_reducible show wpAny _ _ (PySem.call (Value.ref 433) _) _ _ _); k_dflt ((refine' Call.use ?k1 ?k2 ?k3 ?k4 ?k5 ?k6 (at_call ?R ?hT ?hw) ?k7 ?k8 ?_; (case k1 => k_asm); (case k2 => k_asm); (case k3 => k_asm); (case k4 => k_asm); (case R => tb_rel); (case hT => assumption); (case hw => assumption); (case k5 => k_asm); (case k6 => exact rfl); (case k7 => first | ktr_room | decide | decide +kernel); (case k8 => first | ktr_units | decide | decide +kernel); intro r9 led9 h9 tk9 F9 N9 P9; obtain ⟨e9, e9b⟩ := P9; replace e9 := e9.symm; subst e9; refine Exists.elim e9b ?_; clear e9b; intro t9 e9b; subst e9b; (try dsimp only); (try k_fold)))) | walk1 | (dsimp only; first | ((with_reducible show wpAny _ _ (PySem.call (Value.ref 426) _) _ _ _); k_dflt ((refine' Call.use ?k1 ?k2 ?k3 ?k4 ?k5 ?k6 (sum_row2 ?hm ?hi ?hk ?he ?hg ?hlen ?hp) ?k7 ?k8 ?_; (case k1 => k_asm); (case k2 => k_asm); (case k3 => k_asm); (case k4 => k_asm); (case hm => k_mem); (case hi => assumption); (case hk => assumption); (case he => assumption); (case hg => assumption); (case hlen => omega); (case hp => omega); (case k5 => k_asm); (case k6 => exact rfl); (case k7 => first | ktr_room | decide | decide +kernel); (case k8 => first | ktr_units | decide | decide +kernel); intro r9 led9 h9 tk9 F9 N9 P9; obtain ⟨e9, e9b⟩ := P9; replace e9 := e9.symm; subst e9; refine Exists.elim e9b ?_; clear e9b; intro t9 e9b; subst e9b; (try dsimp only); (try k_fold)))) | ((with_reducible show wpAny _ _ (PySem.call (Value.ref 426) _) _ _ _); k_dflt ((refine' Call.use ?k1 ?k2 ?k3 ?k4 ?k5 ?k6 (sum_row1 ?hm ?hi ?he ?hg ?hlen ?hp) ?k7 ?k8 ?_; (case k1 => k_asm); (case k2 => k_asm); (case k3 => k_asm); (case k4 => k_asm); (case hm => k_mem); (case hi => assumption); (case he => assumption); (case hg => assumption); (case hlen => omega); (case hp => omega); (case k5 => k_asm); (case k6 => exact rfl); (case k7 => first | ktr_room | decide | decide +kernel); (case k8 => first | ktr_units | decide | decide +kernel); intro r9 led9 h9 tk9 F9 N9 P9; obtain ⟨e9, e9b⟩ := P9; replace e9 := e9.symm; subst e9; refine Exists.elim e9b ?_; clear e9b; intro t9 e9b; subst e9b; (try dsimp only); (try k_fold)))) | ((with_reducible show wpAny _ _ (PySem.call (Value.ref 426) _) _ _ _); k_dflt ((refine' Call.use ?k1 ?k2 ?k3 ?k4 ?k5 ?k6 (sum_row0 ?hm ?hi ?hg ?hlen ?hp) ?k7 ?k8 ?_; (case k1 => k_asm); (case k2 => k_asm); (case k3 => k_asm); (case k4 => k_asm); (case hm => k_mem); (case hi => assumption); (case hg => assumption); (case hlen => omega); (case hp => omega); (case k5 => k_asm); (case k6 => exact rfl); (case k7 => first | ktr_room | decide | decide +kernel); (case k8 => first | ktr_units | decide | decide +kernel); intro r9 led9 h9 tk9 F9 N9 P9; obtain ⟨e9, e9b⟩ := P9; replace e9 := e9.symm; subst e9; refine Exists.elim e9b ?_; clear e9b; intro t9 e9b; subst e9b; (try dsimp only); (try k_fold)))) | ((with_reducible show wpAny _ _ (PySem.call (Value.ref 419) _) _ _ _); k_dflt ((refine' Call.use ?k1 ?k2 ?k3 ?k4 ?k5 ?k6 (low_call ?hm ?hi ?hlen) ?k7 ?k8 ?_; (case k1 => k_asm); (case k2 => k_asm); (case k3 => k_asm); (case k4 => k_asm); (case hm => k_mem); (case hi => assumption); (case hlen => omega); (case k5 => k_asm); (case k6 => exact rfl); (case k7 => first | ktr_room | decide | decide +kernel); (case k8 => first | ktr_units | decide | decide +kernel); intro r9 led9 h9 tk9 F9 N9 P9; obtain ⟨a9, y9, m9, ms9, e9, e9b, i9, q9, w9⟩ := P9; subst e9; subst e9b; (try dsimp only); (try k_fold)))) | ((with_reducible show wpAny _ _ (PySem.call (Value.ref 407) _) _ _ _); k_dflt ((refine' Call.use ?k1 ?k2 ?k3 ?k4 ?k5 ?k6 (slope_call ?R) ?k7 ?k8 ?_; (case k1 => k_asm); (case k2 => k_asm); (case k3 => k_asm); (case k4 => k_asm); (case R => tb_rel); (case k5 => k_asm); (case k6 => exact rfl); (case k7 => first | ktr_room | decide | decide +kernel); (case k8 => first | ktr_units | decide | decide +kernel); intro r9 led9 h9 tk9 F9 N9 P9; obtain ⟨tl9, e9, T9, R9⟩ := P9; subst e9; (try simp only [List.cons_append, List.append_assoc] at N9 R9); (try dsimp only); (try k_fold)))) | ((with_reducible show wpAny _ _ (PySem.call (Value.ref 433) _) _ _ _); k_dflt ((refine' Call.use ?k1 ?k2 ?k3 ?k4 ?k5 ?k6 (at_call ?R ?hT ?hw) ?k7 ?k8 ?_; (case k1 => k_asm); (case k2 => k_asm); (case k3 => k_asm); (case k4 => k_asm); (case R => tb_rel); (case hT => assumption); (case hw => assumption); (case k5 => k_asm); (case k6 => exact rfl); (case k7 => first | ktr_room | decide | decide +kernel); (case k8 => first | ktr_units | decide | decide +kernel); intro r9 led9 h9 tk9 F9 N9 P9; obtain ⟨e9, e9b⟩ := P9; replace e9 := e9.symm; subst e9; refine Exists.elim e9b ?_; clear e9b; intro t9 e9b; subst e9b; (try dsimp only); (try k_fold)))) | walk1) | (leave1; walk_say "STEP leave1"; try dsimp only) | fail "no step")
  k_dflt ((refine' Call.use ?k1 ?k2 ?k3 ?k4 ?k5 ?k6 (mod_call ?hq) ?k7 ?k8 ?_; (case k1 => k_asm); (case k2 => k_asm); (case k3 => k_asm); (case k4 => k_asm); (case hq => with_reducible assumption); (case k5 => k_asm); (case k6 => exact rfl); (case k7 => first | ktr_room | decide | decide +kernel); (case k8 => first | ktr_units | decide | decide +kernel); intro r9 led9 h9 tk9 F9 N9 P9; obtain ⟨e9, e9b⟩ := P9; replace e9 := e9.symm; subst e9; refine Exists.elim e9b ?_; clear e9b; intro t9 e9b; subst e9b; (try dsimp only); (try k_fold)))
  have wq : -4611686018427387904 ≤ T.slope.slope.eval place ∧ T.slope.slope.eval place ≤ 4611686018427387904 := by have := (worths hok hl5 (p := place) ⟨by omega, by omega⟩).2.2; omega
  repeat' ((fail_if_success (with_reducible show wpAny _ _ (PySem.call (Value.ref 241) _) _ _ _)); first | (k_unfold; (try dsimp only)) | (k_end; wrow_close) | ((with_reducible show wpAny _ _ (PySem.call (Value.ref 426) _) _ _ _); k_dflt ((refine' Call.use ?k1 ?k2 ?k3 ?k4 ?k5 ?k6 (sum_row2 ?hm ?hi ?hk ?he ?hg ?hlen ?hp) ?k7 ?k8 ?_; (case k1 => k_asm); (case k2 => k_asm); (case k3 => k_asm); (case k4 => k_asm); (case hm => k_mem); (case hi => assumption); (case hk => assumption); (case he => assumption); (case hg => assumption); (case hlen => omega); (case hp => omega); (case k5 => k_asm); (case k6 => exact rfl); (case k7 => first | ktr_room | decide | decide +kernel); (case k8 => first | ktr_units | decide | decide +kernel); intro r9 led9 h9 tk9 F9 N9 P9; obtain ⟨e9, e9b⟩ := P9; replace e9 := e9.symm; subst e9; refine Exists.elim e9b ?_; clear e9b; intro t9 e9b; subst e9b; (try dsimp only); (try k_fold)))) | ((with_reducible show wpAny _ _ (PySem.call (Value.ref 426) _) _ _ _); k_dflt ((refine' Call.use ?k1 ?k2 ?k3 ?k4 ?k5 ?k6 (sum_row1 ?hm ?hi ?he ?hg ?hlen ?hp) ?k7 ?k8 ?_; (case k1 => k_asm); (case k2 => k_asm); (case k3 => k_asm); (case k4 => k_asm); (case hm => k_mem); (case hi => assumption); (case he => assumption); (case hg => assumption); (case hlen => omega); (case hp => omega); (case k5 => k_asm); (case k6 => exact rfl); (case k7 => first | ktr_room | decide | decide +kernel); (case k8 => first | ktr_units | decide | decide +kernel); intro r9 led9 h9 tk9 F9 N9 P9; obtain ⟨e9, e9b⟩ := P9; replace e9 := e9.symm; subst e9; refine Exists.elim e9b ?_; clear e9b; intro t9 e9b; subst e9b; (try dsimp only); (try k_fold)))) | ((with_reducible show wpAny _ _ (PySem.call (Value.ref 426) _) _ _ _); k_dflt ((refine' Call.use ?k1 ?k2 ?k3 ?k4 ?k5 ?k6 (sum_row0 ?hm ?hi ?hg ?hlen ?hp) ?k7 ?k8 ?_; (case k1 => k_asm); (case k2 => k_asm); (case k3 => k_asm); (case k4 => k_asm); (case hm => k_mem); (case hi => assumption); (case hg => assumption); (case hlen => omega); (case hp => omega); (case k5 => k_asm); (case k6 => exact rfl); (case k7 => first | ktr_room | decide | decide +kernel); (case k8 => first | ktr_units | decide | decide +kernel); intro r9 led9 h9 tk9 F9 N9 P9; obtain ⟨e9, e9b⟩ := P9; replace e9 := e9.symm; subst e9; refine Exists.elim e9b ?_; clear e9b; intro t9 e9b; subst e9b; (try dsimp only); (try k_fold)))) | ((with_reducible show wpAny _ _ (PySem.call (Value.ref 419) _) _ _ _); k_dflt ((refine' Call.use ?k1 ?k2 ?k3 ?k4 ?k5 ?k6 (low_call ?hm ?hi ?hlen) ?k7 ?k8 ?_; (case k1 => k_asm); (case k2 => k_asm); (case k3 => k_asm); (case k4 => k_asm); (case hm => k_mem); (case hi => assumption); (case hlen => omega); (case k5 => k_asm); (case k6 => exact rfl); (case k7 => first | ktr_room | decide | decide +kernel); (case k8 => first | ktr_units | decide | decide +kernel); intro r9 led9 h9 tk9 F9 N9 P9; obtain ⟨a9, y9, m9, ms9, e9, e9b, i9, q9, w9⟩ := P9; subst e9; subst e9b; (try dsimp only); (try k_fold)))) | ((with_reducible show wpAny _ _ (PySem.call (Value.ref 407) _) _ _ _); k_dflt ((refine' Call.use ?k1 ?k2 ?k3 ?k4 ?k5 ?k6 (slope_call ?R) ?k7 ?k8 ?_; (case k1 => k_asm); (case k2 => k_asm); (case k3 => k_asm); (case k4 => k_asm); (case R => tb_rel); (case k5 => k_asm); (case k6 => exact rfl); (case k7 => first | ktr_room | decide | decide +kernel); (case k8 => first | ktr_units | decide | decide +kernel); intro r9 led9 h9 tk9 F9 N9 P9; obtain ⟨tl9, e9, T9, R9⟩ := P9; subst e9; (try simp only [List.cons_append, List.append_assoc] at N9 R9); (try dsimp only); (try k_fold)))) | ((with_reducible show wpAny _ _ (PySem.call (Value.ref 433) _) _ _ _); k_dflt ((refine' Call.use ?k1 ?k2 ?k3 ?k4 ?k5 ?k6 (at_call ?R ?hT ?hw) ?k7 ?k8 ?_; (case k1 => k_asm); (case k2 => k_asm); (case k3 => k_asm); (case k4 => k_asm); (case R => tb_rel); (case hT => assumption); (case hw => assumption); (case k5 => k_asm); (case k6 => exact rfl); (case k7 => first | ktr_room | decide | decide +kernel); (case k8 => first | ktr_units | decide | decide +kernel); intro r9 led9 h9 tk9 F9 N9 P9; obtain ⟨e9, e9b⟩ := P9; replace e9 := e9.symm; subst e9; refine Exists.elim e9b ?_; clear e9b; intro t9 e9b; subst e9b; (try dsimp only); (try k_fold)))) | walk1 | (dsimp only; first | ((with_reducible show wpAny _ _ (PySem.call (Value.ref 426) _) _ _ _); k_dflt ((refine' Call.use ?k1 ?k2 ?k3 ?k4 ?k5 ?k6 (sum_row2 ?hm ?hi ?hk ?he ?hg ?hlen ?hp) ?k7 ?k8 ?_; (case k1 => k_asm); (case k2 => k_asm); (case k3 => k_asm); (case k4 => k_asm); (case hm => k_mem); (case hi => assumption); (case hk => assumption); (case he => assumption); (case hg => assumption); (case hlen => omega); (case hp => omega); (case k5 => k_asm); (case k6 => exact rfl); (case k7 => first | ktr_room | decide | decide +kernel); (case k8 => first | ktr_units | decide | decide +kernel); intro r9 led9 h9 tk9 F9 N9 P9; obtain ⟨e9, e9b⟩ := P9; replace e9 := e9.symm; subst e9; refine Exists.elim e9b ?_; clear e9b; intro t9 e9b; subst e9b; (try dsimp only); (try k_fold)))) | ((with_reducible show wpAny _ _ (PySem.call (Value.ref 426) _) _ _ _); k_dflt ((refine' Call.use ?k1 ?k2 ?k3 ?k4 ?k5 ?k6 (sum_row1 ?hm ?hi ?he ?hg ?hlen ?hp) ?k7 ?k8 ?_; (case k1 => k_asm); (case k2 => k_asm); (case k3 => k_asm); (case k4 => k_asm); (case hm => k_mem); (case hi => assumption); (case he => assumption); (case hg => assumption); (case hlen => omega); (case hp => omega); (case k5 => k_asm); (case k6 => exact rfl); (case k7 => first | ktr_room | decide | decide +kernel); (case k8 => first | ktr_units | decide | decide +kernel); intro r9 led9 h9 tk9 F9 N9 P9; obtain ⟨e9, e9b⟩ := P9; replace e9 := e9.symm; subst e9; refine Exists.elim e9b ?_; clear e9b; intro t9 e9b; subst e9b; (try dsimp only); (try k_fold)))) | ((with_reducible show wpAny _ _ (PySem.call (Value.ref 426) _) _ _ _); k_dflt ((refine' Call.use ?k1 ?k2 ?k3 ?k4 ?k5 ?k6 (sum_row0 ?hm ?hi ?hg ?hlen ?hp) ?k7 ?k8 ?_; (case k1 => k_asm); (case k2 => k_asm); (case k3 => k_asm); (case k4 => k_asm); (case hm => k_mem); (case hi => assumption); (case hg => assumption); (case hlen => omega); (case hp => omega); (case k5 => k_asm); (case k6 => exact rfl); (case k7 => first | ktr_room | decide | decide +kernel); (case k8 => first | ktr_units | decide | decide +kernel); intro r9 led9 h9 tk9 F9 N9 P9; obtain ⟨e9, e9b⟩ := P9; replace e9 := e9.symm; subst e9; refine Exists.elim e9b ?_; clear e9b; intro t9 e9b; subst e9b; (try dsimp only); (try k_fold)))) | ((with_reducible show wpAny _ _ (PySem.call (Value.ref 419) _) _ _ _); k_dflt ((refine' Call.use ?k1 ?k2 ?k3 ?k4 ?k5 ?k6 (low_call ?hm ?hi ?hlen) ?k7 ?k8 ?_; (case k1 => k_asm); (case k2 => k_asm); (case k3 => k_asm); (case k4 => k_asm); (case hm => k_mem); (case hi => assumption); (case hlen => omega); (case k5 => k_asm); (case k6 => exact rfl); (case k7 => first | ktr_room | decide | decide +kernel); (case k8 => first | ktr_units | decide | decide +kernel); intro r9 led9 h9 tk9 F9 N9 P9; obtain ⟨a9, y9, m9, ms9, e9, e9b, i9, q9, w9⟩ := P9; subst e9; subst e9b; (try dsimp only); (try k_fold)))) | ((with_reducible show wpAny _ _ (PySem.call (Value.ref 407) _) _ _ _); k_dflt ((refine' Call.use ?k1 ?k2 ?k3 ?k4 ?k5 ?k6 (slope_call ?R) ?k7 ?k8 ?_; (case k1 => k_asm); (case k2 => k_asm); (case k3 => k_asm); (case k4 => k_asm); (case R => tb_rel); (case k5 => k_asm); (case k6 => exact rfl); (case k7 => first | ktr_room | decide | decide +kernel); (case k8 => first | ktr_units | decide | decide +kernel); intro r9 led9 h9 tk9 F9 N9 P9; obtain ⟨tl9, e9, T9, R9⟩ := P9; subst e9; (try simp only [List.cons_append, List.append_assoc] at N9 R9); (try dsimp only); (try k_fold)))) | ((with_reducible show wpAny _ _ (PySem.call (Value.ref 433) _) _ _ _); k_dflt ((refine' Call.use ?k1 ?k2 ?k3 ?k4 ?k5 ?k6 (at_call ?R ?hT ?hw) ?k7 ?k8 ?_; (case k1 => k_asm); (case k2 => k_asm); (case k3 => k_asm); (case k4 => k_asm); (case R => tb_rel); (case hT => assumption); (case hw => assumption); (case k5 => k_asm); (case k6 => exact rfl); (case k7 => first | ktr_room | decide | decide +kernel); (case k8 => first | ktr_units | decide | decide +kernel); intro r9 led9 h9 tk9 F9 N9 P9; obtain ⟨e9, e9b⟩ := P9; replace e9 := e9.symm; subst e9; refine Exists.elim e9b ?_; clear e9b; intro t9 e9b; subst e9b; (try dsimp only); (try k_fold)))) | walk1) | (leave1; walk_say "STEP leave1"; try dsimp only) | fail "no step")
  k_dflt ((refine' Call.use ?k1 ?k2 ?k3 ?k4 ?k5 ?k6 (mod_call ?hq) ?k7 ?k8 ?_; (case k1 => k_asm); (case k2 => k_asm); (case k3 => k_asm); (case k4 => k_asm); (case hq => with_reducible assumption); (case k5 => k_asm); (case k6 => exact rfl); (case k7 => first | ktr_room | decide | decide +kernel); (case k8 => first | ktr_units | decide | decide +kernel); intro r9 led9 h9 tk9 F9 N9 P9; obtain ⟨e9, e9b⟩ := P9; replace e9 := e9.symm; subst e9; refine Exists.elim e9b ?_; clear e9b; intro t9 e9b; subst e9b; (try dsimp only); (try k_fold)))
  repeat' ((fail_if_success (with_reducible show GoodW _ _ _ _ _ _ _)); first | (k_unfold; (try dsimp only)) | (k_end; wrow_close) | ((with_reducible show wpAny _ _ (PySem.call (Value.ref 426) _) _ _ _); k_dflt ((refine' Call.use ?k1 ?k2 ?k3 ?k4 ?k5 ?k6 (sum_row2 ?hm ?hi ?hk ?he ?hg ?hlen ?hp) ?k7 ?k8 ?_; (case k1 => k_asm); (case k2 => k_asm); (case k3 => k_asm); (case k4 => k_asm); (case hm => k_mem); (case hi => assumption); (case hk => assumption); (case he => assumption); (case hg => assumption); (case hlen => omega); (case hp => omega); (case k5 => k_asm); (case k6 => exact rfl); (case k7 => first | ktr_room | decide | decide +kernel); (case k8 => first | ktr_units | decide | decide +kernel); intro r9 led9 h9 tk9 F9 N9 P9; obtain ⟨e9, e9b⟩ := P9; replace e9 := e9.symm; subst e9; refine Exists.elim e9b ?_; clear e9b; intro t9 e9b; subst e9b; (try dsimp only); (try k_fold)))) | ((with_reducible show wpAny _ _ (PySem.call (Value.ref 426) _) _ _ _); k_dflt ((refine' Call.use ?k1 ?k2 ?k3 ?k4 ?k5 ?k6 (sum_row1 ?hm ?hi ?he ?hg ?hlen ?hp) ?k7 ?k8 ?_; (case k1 => k_asm); (case k2 => k_asm); (case k3 => k_asm); (case k4 => k_asm); (case hm => k_mem); (case hi => assumption); (case he => assumption); (case hg => assumption); (case hlen => omega); (case hp => omega); (case k5 => k_asm); (case k6 => exact rfl); (case k7 => first | ktr_room | decide | decide +kernel); (case k8 => first | ktr_units | decide | decide +kernel); intro r9 led9 h9 tk9 F9 N9 P9; obtain ⟨e9, e9b⟩ := P9; replace e9 := e9.symm; subst e9; refine Exists.elim e9b ?_; clear e9b; intro t9 e9b; subst e9b; (try dsimp only); (try k_fold)))) | ((with_reducible show wpAny _ _ (PySem.call (Value.ref 426) _) _ _ _); k_dflt ((refine' Call.use ?k1 ?k2 ?k3 ?k4 ?k5 ?k6 (sum_row0 ?hm ?hi ?hg ?hlen ?hp) ?k7 ?k8 ?_; (case k1 => k_asm); (case k2 => k_asm); (case k3 => k_asm); (case k4 => k_asm); (case hm => k_mem); (case hi => assumption); (case hg => assumption); (case hlen => omega); (case hp => omega); (case k5 => k_asm); (case k6 => exact rfl); (case k7 => first | ktr_room | decide | decide +kernel); (case k8 => first | ktr_units | decide | decide +kernel); intro r9 led9 h9 tk9 F9 N9 P9; obtain ⟨e9, e9b⟩ := P9; replace e9 := e9.symm; subst e9; refine Exists.elim e9b ?_; clear e9b; intro t9 e9b; subst e9b; (try dsimp only); (try k_fold)))) | ((with_reducible show wpAny _ _ (PySem.call (Value.ref 419) _) _ _ _); k_dflt ((refine' Call.use ?k1 ?k2 ?k3 ?k4 ?k5 ?k6 (low_call ?hm ?hi ?hlen) ?k7 ?k8 ?_; (case k1 => k_asm); (case k2 => k_asm); (case k3 => k_asm); (case k4 => k_asm); (case hm => k_mem); (case hi => assumption); (case hlen => omega); (case k5 => k_asm); (case k6 => exact rfl); (case k7 => first | ktr_room | decide | decide +kernel); (case k8 => first | ktr_units | decide | decide +kernel); intro r9 led9 h9 tk9 F9 N9 P9; obtain ⟨a9, y9, m9, ms9, e9, e9b, i9, q9, w9⟩ := P9; subst e9; subst e9b; (try dsimp only); (try k_fold)))) | ((with_reducible show wpAny _ _ (PySem.call (Value.ref 407) _) _ _ _); k_dflt ((refine' Call.use ?k1 ?k2 ?k3 ?k4 ?k5 ?k6 (slope_call ?R) ?k7 ?k8 ?_; (case k1 => k_asm); (case k2 => k_asm); (case k3 => k_asm); (case k4 => k_asm); (case R => tb_rel); (case k5 => k_asm); (case k6 => exact rfl); (case k7 => first | ktr_room | decide | decide +kernel); (case k8 => first | ktr_units | decide | decide +kernel); intro r9 led9 h9 tk9 F9 N9 P9; obtain ⟨tl9, e9, T9, R9⟩ := P9; subst e9; (try simp only [List.cons_append, List.append_assoc] at N9 R9); (try dsimp only); (try k_fold)))) | ((with_reducible show wpAny _ _ (PySem.call (Value.ref 433) _) _ _ _); k_dflt ((refine' Call.use ?k1 ?k2 ?k3 ?k4 ?k5 ?k6 (at_call ?R ?hT ?hw) ?k7 ?k8 ?_; (case k1 => k_asm); (case k2 => k_asm); (case k3 => k_asm); (case k4 => k_asm); (case R => tb_rel); (case hT => assumption); (case hw => assumption); (case k5 => k_asm); (case k6 => exact rfl); (case k7 => first | ktr_room | decide | decide +kernel); (case k8 => first | ktr_units | decide | decide +kernel); intro r9 led9 h9 tk9 F9 N9 P9; obtain ⟨e9, e9b⟩ := P9; replace e9 := e9.symm; subst e9; refine Exists.elim e9b ?_; clear e9b; intro t9 e9b; subst e9b; (try dsimp only); (try k_fold)))) | walk1 | (dsimp only; first | ((with_reducible show wpAny _ _ (PySem.call (Value.ref 426) _) _ _ _); k_dflt ((refine' Call.use ?k1 ?k2 ?k3 ?k4 ?k5 ?k6 (sum_row2 ?hm ?hi ?hk ?he ?hg ?hlen ?hp) ?k7 ?k8 ?_; (case k1 => k_asm); (case k2 => k_asm); (case k3 => k_asm); (case k4 => k_asm); (case hm => k_mem); (case hi => assumption); (case hk => assumption); (case he => assumption); (case hg => assumption); (case hlen => omega); (case hp => omega); (case k5 => k_asm); (case k6 => exact rfl); (case k7 => first | ktr_room | decide | decide +kernel); (case k8 => first | ktr_units | decide | decide +kernel); intro r9 led9 h9 tk9 F9 N9 P9; obtain ⟨e9, e9b⟩ := P9; replace e9 := e9.symm; subst e9; refine Exists.elim e9b ?_; clear e9b; intro t9 e9b; subst e9b; (try dsimp only); (try k_fold)))) | ((with_reducible show wpAny _ _ (PySem.call (Value.ref 426) _) _ _ _); k_dflt ((refine' Call.use ?k1 ?k2 ?k3 ?k4 ?k5 ?k6 (sum_row1 ?hm ?hi ?he ?hg ?hlen ?hp) ?k7 ?k8 ?_; (case k1 => k_asm); (case k2 => k_asm); (case k3 => k_asm); (case k4 => k_asm); (case hm => k_mem); (case hi => assumption); (case he => assumption); (case hg => assumption); (case hlen => omega); (case hp => omega); (case k5 => k_asm); (case k6 => exact rfl); (case k7 => first | ktr_room | decide | decide +kernel); (case k8 => first | ktr_units | decide | decide +kernel); intro r9 led9 h9 tk9 F9 N9 P9; obtain ⟨e9, e9b⟩ := P9; replace e9 := e9.symm; subst e9; refine Exists.elim e9b ?_; clear e9b; intro t9 e9b; subst e9b; (try dsimp only); (try k_fold)))) | ((with_reducible show wpAny _ _ (PySem.call (Value.ref 426) _) _ _ _); k_dflt ((refine' Call.use ?k1 ?k2 ?k3 ?k4 ?k5 ?k6 (sum_row0 ?hm ?hi ?hg ?hlen ?hp) ?k7 ?k8 ?_; (case k1 => k_asm); (case k2 => k_asm); (case k3 => k_asm); (case k4 => k_asm); (case hm => k_mem); (case hi => assumption); (case hg => assumption); (case hlen => omega); (case hp => omega); (case k5 => k_asm); (case k6 => exact rfl); (case k7 => first | ktr_room | decide | decide +kernel); (case k8 => first | ktr_units | decide | decide +kernel); intro r9 led9 h9 tk9 F9 N9 P9; obtain ⟨e9, e9b⟩ := P9; replace e9 := e9.symm; subst e9; refine Exists.elim e9b ?_; clear e9b; intro t9 e9b; subst e9b; (try dsimp only); (try k_fold)))) | ((with_reducible show wpAny _ _ (PySem.call (Value.ref 419) _) _ _ _); k_dflt ((refine' Call.use ?k1 ?k2 ?k3 ?k4 ?k5 ?k6 (low_call ?hm ?hi ?hlen) ?k7 ?k8 ?_; (case k1 => k_asm); (case k2 => k_asm); (case k3 => k_asm); (case k4 => k_asm); (case hm => k_mem); (case hi => assumption); (case hlen => omega); (case k5 => k_asm); (case k6 => exact rfl); (case k7 => first | ktr_room | decide | decide +kernel); (case k8 => first | ktr_units | decide | decide +kernel); intro r9 led9 h9 tk9 F9 N9 P9; obtain ⟨a9, y9, m9, ms9, e9, e9b, i9, q9, w9⟩ := P9; subst e9; subst e9b; (try dsimp only); (try k_fold)))) | ((with_reducible show wpAny _ _ (PySem.call (Value.ref 407) _) _ _ _); k_dflt ((refine' Call.use ?k1 ?k2 ?k3 ?k4 ?k5 ?k6 (slope_call ?R) ?k7 ?k8 ?_; (case k1 => k_asm); (case k2 => k_asm); (case k3 => k_asm); (case k4 => k_asm); (case R => tb_rel); (case k5 => k_asm); (case k6 => exact rfl); (case k7 => first | ktr_room | decide | decide +kernel); (case k8 => first | ktr_units | decide | decide +kernel); intro r9 led9 h9 tk9 F9 N9 P9; obtain ⟨tl9, e9, T9, R9⟩ := P9; subst e9; (try simp only [List.cons_append, List.append_assoc] at N9 R9); (try dsimp only); (try k_fold)))) | ((with_reducible show wpAny _ _ (PySem.call (Value.ref 433) _) _ _ _); k_dflt ((refine' Call.use ?k1 ?k2 ?k3 ?k4 ?k5 ?k6 (at_call ?R ?hT ?hw) ?k7 ?k8 ?_; (case k1 => k_asm); (case k2 => k_asm); (case k3 => k_asm); (case k4 => k_asm); (case R => tb_rel); (case hT => assumption); (case hw => assumption); (case k5 => k_asm); (case k6 => exact rfl); (case k7 => first | ktr_room | decide | decide +kernel); (case k8 => first | ktr_units | decide | decide +kernel); intro r9 led9 h9 tk9 F9 N9 P9; obtain ⟨e9, e9b⟩ := P9; replace e9 := e9.symm; subst e9; refine Exists.elim e9b ?_; clear e9b; intro t9 e9b; subst e9b; (try dsimp only); (try k_fold)))) | walk1) | (leave1; walk_say "STEP leave1"; try dsimp only) | fail "no step")
  w_end
  exact goodW_bool (by assumption) (by assumption) (raisesW_false (by wrow_none_raised)) (post_k _)
end PartZ1
end Mine
theorem PySem.Challenge.cw_xm0043_01_holds : PySem.Challenge.rw_xm0043_01.Holds := by
  exact Mine.goes
