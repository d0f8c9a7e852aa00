import PyProof.Rows.All
import Wide.All
import OpenK.AllK
import Wide.FinOn
import PySem.Challenge.RW_pc0368_01
set_option Elab.async false
section
open PySem PySem.W PyProof.Rows
namespace Mine
noncomputable abbrev Needs (C : Prop) := (L : Prop) ×' (W : Prop) ×' (L → W → C)
noncomputable def needs {L W C : Prop} (f : L → W → C) : Needs C := ⟨L, W, f⟩
theorem holes {P W C : Prop} (hl : P) (hc : W) (main : P → W → C) : C := main hl hc
set_option maxRecDepth 100000 in
theorem said0 : PySem.Challenge.rw_pc0368_01.wellSaid = true := by
  try (rw [PySem.W.Fast.te9446332074065402090]
       delta PySem.W.Fast.tw9446332074065402090 PySem.W.Fast.tw17960256430627541270 PySem.W.Fast.tw2436336058641802641 PySem.W.Fast.tw12908688711261696721)
  repeat' with_reducible refine look_both ?_ ?_
  all_goals decide +kernel
set_option maxRecDepth 100000 in
set_option maxHeartbeats 8000000 in
noncomputable def hd : Needs PySem.Challenge.rw_pc0368_01.Holds := by
  apply needs
  case f =>
    intro hl0 hc0
    apply holes
    case main =>
      intro _ _
      w_on
      refine holds_law said0 fun said => ?_
      k_head
      case hw => w_witness2
    case hl => exact hl0
    case hc => exact hc0
end Mine

open PySem PySem.W PyProof.Rows
namespace Mine
/-- the top's run over a heap kept as a tree: go is one step, ok what a step may do, th the end -/
noncomputable def runT (go : SharedT → Thread → Option (SharedT × Thread)) (ok th : Thread → Bool) : Nat → SharedT → Thread → Option SharedT
  | 0, _, _ => none
  | n + 1, s, t => match th t with
    | true => some s
    | false => match ok t with
      | false => none
      | true => match go s t with
        | some (s', t') => runT go ok th n s' t'
        | none => none
theorem run_of {tb : String → Option Builtin} {p : Program} {w : World} {n₀ : Nat} {ann : Option Value} {r : SharedT} (n : Nat) :
    ∀ s t, runT (stepT (denote tb) p w) (stepOk n₀ ann) through n s t = some r → topRun tb p w n₀ ann n s.abs t = some r.abs := by
  induction n with
  | zero => intro s t h; cases h
  | succ n ih =>
    intro s t
    simp only [runT, topRun]
    cases through t
    · cases stepOk n₀ ann t
      · intro h; cases h
      · rcases e : stepT (denote tb) p w s t with _ | ⟨s', t'⟩
        · intro h; cases h
        · simp only [stepT_spec e]
          exact ih s' t'
    · intro h
      simp only [Option.some.injEq] at h ⊢
      rw [h]
/-- the list's objects, laid into the tree one by one -/
noncomputable def grow : List Obj → Nat → BT → BT
  | [], _, T => T
  | o :: l, n, T => grow l (n + 1) (T.ins n o)
noncomputable def tree0 (P : Params) : BT := grow (boot_heap P).objs.toList 0 .nil
theorem map_pair {σ α β : Type} {r : Option σ} {f : σ → α} {g : σ → β} {a : α} {b : β} (h1 : r.map f = some a) (h2 : r.map g = some b) : r.map (fun s => (f s, g s)) = some (a, b) := by
  cases r with
  | none => cases h1
  | some s => exact congrArg some (Prod.ext (Option.some.inj h1) (Option.some.inj h2))
/-- what the looks ask of the heap behind the top, as one Bool -/
noncomputable def kept (p : Program) (h : Heap) (s : Shared) : Bool := staticsOk (importedModules p.main.body) h s.heap && namesBound p s.heap && gensDone s && laidKept h s.heap
theorem from_of {p : Program} {w : World} {N m₀ : Nat} {ann : Option Value} {s₀ : Shared} {T : BT} {s : SharedT} (ns : s₀.heap.isNs mainGlobals && s₀.gens.size == 0) (sz : s₀.heap.objs.size = m₀)
    (an : s₀.heap.nsMap mainGlobals "__annotations__" = ann) (tr : absHeap T m₀ s₀.heap.life = s₀.heap)
    (run : runT (stepT (denote treeTable) p w) (stepOk m₀ ann) through N ⟨T, m₀, s₀.heap.life, s₀.gens, s₀.drawn, s₀.toks, s₀.os⟩ (topStub p) = some s) (ok : kept p s₀.heap s.abs = true) : topFrom treeTable p w N s₀ = some s.abs := by
  have r := run_of N _ _ run
  simp only [SharedT.abs] at r
  rw [tr, ← sz, ← an] at r
  simp only [topFrom, ns, r, Option.bind_some]
  simp only [kept, SharedT.abs] at ok
  simp only [SharedT.abs, ok]
theorem left_of {p q : Program} {loose : List Str} {Xt : Shared → Bool} {α : Type} {Yf : Shared → α} {Ya : World → α} {N : Nat} {g0 : Bool} {H₀ : Params → Heap} {T₀ : Params → BT} {m₀ : Nat} {gs₀ : Array GenState} {d₀ : Drawn} {k₀ : Nat} {ann : Params → Option Value}
    (start : ∀ w : World, (fencedOpening treeTable p w N).map (fun s => (s.heap, s.gens, s.drawn, s.toks)) = some (H₀ w.params, gs₀, d₀, k₀))
    (ns : ∀ P : Params, (H₀ P).isNs mainGlobals && gs₀.size == 0) (sz : ∀ P : Params, (H₀ P).objs.size = m₀) (an : ∀ P : Params, (H₀ P).nsMap mainGlobals "__annotations__" = ann P)
    (tree : ∀ P : Params, absHeap (T₀ P) m₀ (H₀ P).life = H₀ P)
    (all : ∀ (w : World) (os : OsState), (runT (stepT (denote treeTable) p w) (stepOk m₀ (ann w.params)) through N ⟨T₀ w.params, m₀, (H₀ w.params).life, gs₀, d₀, k₀, os⟩ (topStub p)).map (fun s =>
        (kept p (H₀ w.params) s.abs, openSeen q loose (importedModules p.main.body) Xt g0 s.abs, Yf s.abs)) = some (true, openGood q loose, Ya w)) :
    LeftO p q loose Xt Yf Ya N g0 := by
  intro w
  have hs := start w
  rcases e : fencedOpening treeTable p w N with _ | s₀
  · rw [e] at hs; cases hs
  rw [e] at hs
  simp only [Option.map_some, Option.some.injEq, Prod.mk.injEq] at hs
  obtain ⟨hh, hg, hd, hk⟩ := hs
  have ha := all w s₀.os
  rcases er : runT (stepT (denote treeTable) p w) (stepOk m₀ (ann w.params)) through N ⟨T₀ w.params, m₀, (H₀ w.params).life, gs₀, d₀, k₀, s₀.os⟩ (topStub p) with _ | s
  · rw [er] at ha; cases ha
  rw [er] at ha
  simp only [Option.map_some, Option.some.injEq, Prod.mk.injEq] at ha
  have ht : topFrom treeTable p w N s₀ = some s.abs := by
    refine from_of (m₀ := m₀) (ann := ann w.params) (T := T₀ w.params) ?_ ?_ ?_ ?_ ?_ ?_
    · rw [hh, hg]; exact ns _
    · rw [hh]; exact sz _
    · rw [hh]; exact an _
    · rw [hh]; exact tree _
    · rw [hh, hg, hd, hk]; exact er
    · rw [hh]; exact ha.1
  simp only [openEnds, e, Option.bind_some, ht, Option.map_some, ha.2.1, ha.2.2]
theorem tree_is : ∀ P : Params, absHeap (tree0 P) 11 (boot_heap P).life = boot_heap P := by
  intro P
  kernel_rfl
theorem ns_is : ∀ P : Params, (boot_heap P).isNs mainGlobals && (#[] : Array GenState).size == 0 := by
  intro P
  kernel_rfl
theorem sz_is : ∀ P : Params, (boot_heap P).objs.size = 11 := by
  intro P
  kernel_rfl
set_option maxRecDepth 100000 in
set_option maxHeartbeats 0 in
theorem hd_left : hd.1 := by
  unfold hd needs
  dsimp only
  apply left_of (H₀ := boot_heap) (T₀ := tree0) (m₀ := 11)
  case tree => exact tree_is
  case ns => exact ns_is
  case sz => exact sz_is
  case an => exact fun P => rfl
  case start =>
    apply boot_open
    · rfl
    · rfl
    · intro _; rfl
  case all =>
    intro w os
    try rw [PySem.W.Fast.te10156331382660048174, PySem.W.Fast.te11892475500146522536, PySem.W.Fast.te14364793385576792824, PySem.W.Fast.te6613529449190102663, PySem.W.Fast.te4187177175401517315]
    apply map_pair
    case h1 => kernel_rfl
    case h2 =>
      apply map_pair
      case h1 => kernel_rfl
      case h2 => kernel_rfl
end Mine

end
section
open PySem PySem.W PyProof.Rows PySem.Spec PySem.Calls
set_option maxRecDepth 100000
namespace Mine
noncomputable abbrev prg : Program := PySem.Challenge.rw_pc0368_01.row.prog
noncomputable abbrev vw : Program := Mine.hd.view_1
noncomputable abbrev lse : List Str := looseW Mine.hd.view_1 [Str.ofString "SettingError"]
noncomputable abbrev Led := List (Addr × Obj)
theorem hideG {G : Prop} (h : ∀ X : Prop, (G → X) → X) : G := h G id

/-- what a call of the def at f with the arguments vs, over the ledger news, hands back -/
noncomputable def Says (w : World) (f : Addr) (dd uu : Nat) (news : Led) (vs : List Value) (Post : Led → Value → Prop) : Prop :=
  ∀ (mean : ExcName → Option Value) (mg mb : Str → Option Value) (dp un : Nat) (gd : Option (List Code)) (cn : Str) (cs : Scope) (a : Addr) (ccd : Value) (cl : List (Str × Addr)) (outer : List Env) (A₀ : Around) (base h₀ : Heap) (L : Addr) (m : Str → Option Value) (s : Shared)
    (Q E : Value → Shared → Prop),
    Below A₀ base outer h₀ → Fr h₀ L s.heap m → (Mine.hd.heap_1 w.params).In h₀ → News h₀ L s.heap news → Top vw lse mean mg mb h₀ → cs.kind = .function → dp + dd < recursionLimit → un + uu < cLine →
    (∀ r tl h' tk', Fr h₀ L h' m → News h₀ L h' (news ++ tl) → (∀ q ∈ news, ∀ p ∈ tl, q.1 < p.1) → Post (news ++ tl) r → Q r { s with heap := h', toks := tk' }) →
    wpAny (model prg w) (ktrTop dp un gd cn cs L a ccd cl outer) (call (.ref f) vs) Q E s

theorem Says.use {w : World} {f : Addr} {dd uu : Nat} {news : Led} {vs : List Value} {Post : Led → Value → Prop} (H : Says w f dd uu news vs Post)
    {mean : ExcName → Option Value} {mg mb : Str → Option Value} {dp un : Nat} {gd : Option (List Code)} {cn : Str} {cs : Scope} {a : Addr} {ccd : Value} {cl : List (Str × Addr)} {outer : List Env} {A₀ : Around} {base h₀ : Heap} {L : Addr} {m : Str → Option Value} {s : Shared}
    {Q E : Value → Shared → Prop} (B : Below A₀ base outer h₀) (F : Fr h₀ L s.heap m) (X : (Mine.hd.heap_1 w.params).In h₀) (N : News h₀ L s.heap news) (T : Top vw lse mean mg mb h₀) (hk : cs.kind = .function) (hd : dp + dd < recursionLimit) (hu : un + uu < cLine)
    (ret : ∀ r tl h' tk', Fr h₀ L h' m → News h₀ L h' (news ++ tl) → (∀ q ∈ news, ∀ p ∈ tl, q.1 < p.1) → Post (news ++ tl) r → Q r { s with heap := h', toks := tk' }) :
    wpAny (model prg w) (ktrTop dp un gd cn cs L a ccd cl outer) (call (.ref f) vs) Q E s := H _ _ _ _ _ _ _ _ _ _ _ _ _ _ _ _ _ _ _ _ B F X N T hk hd hu ret

noncomputable abbrev tupO (vs : List Value) (n : Nat) : Obj := { cls := .type "tuple", data := .seq vs.toArray n }

inductive All2 {α β : Type} (R : α → β → Prop) : List α → List β → Prop
  | nil : All2 R [] []
  | cons {a : α} {b : β} {as : List α} {bs : List β} : R a b → All2 R as bs → All2 R (a :: as) (b :: bs)

inductive Wish where
  | mask (v m : Int)
  | range (lo hi : Int)

inductive PairIn (news : Led) (v : Value) (d : Int × Int) : Prop
  | of9 : ∀ (a : Addr) (n : Nat) (t u : Tok), (v = .ref a) → ((a, tupO [.int d.1 t, .int d.2 u] n) ∈ news) → PairIn news v d
theorem PairIn.mk {news : Led} {a : Addr} {n : Nat} {x y : Int} {t u : Tok} (h : (a, tupO [.int x t, .int y u] n) ∈ news) : PairIn news (.ref a) (x, y) := ⟨a, n, t, u, rfl, h⟩
inductive WishIn (news : Led) : Value → Wish → Prop
  | mask {a : Addr} {n : Nat} {x y : Int} {s t u : Tok} : (a, tupO [.str (Str.ofString "mask") s, .int x t, .int y u] n) ∈ news → WishIn news (.ref a) (.mask x y)
  | range {a : Addr} {n : Nat} {x y : Int} {s t u : Tok} : (a, tupO [.str (Str.ofString "range") s, .int x t, .int y u] n) ∈ news → WishIn news (.ref a) (.range x y)
inductive ListIn {α : Type} (R : Led → Value → α → Prop) (news : Led) (v : Value) (ds : List α) : Prop
  | of9 : ∀ (a : Addr) (n : Nat) (vs : List Value), (v = .ref a) → ((a, listOf vs.toArray n) ∈ news) → (All2 (R news) vs ds) → ListIn R news v ds
theorem ListIn.mk {α : Type} {R : Led → Value → α → Prop} {news : Led} {a : Addr} {n : Nat} {vs : List Value} {ds : List α} (h : (a, listOf vs.toArray n) ∈ news) (k : All2 (R news) vs ds) : ListIn R news (.ref a) ds := ⟨a, n, vs, rfl, h, k⟩

theorem PairIn.mono {l l' : Led} {v : Value} {d : Int × Int} (h : PairIn l v d) (s : ∀ p ∈ l, p ∈ l') : PairIn l' v d := by obtain ⟨a, n, t, u, e, h⟩ := h; exact ⟨a, n, t, u, e, s _ h⟩
theorem WishIn.mono {l l' : Led} {v : Value} {d : Wish} (h : WishIn l v d) (s : ∀ p ∈ l, p ∈ l') : WishIn l' v d := by
  cases h with
  | mask h => exact .mask (s _ h)
  | range h => exact .range (s _ h)
theorem All2.imp {α β : Type} {R S : α → β → Prop} (i : ∀ a b, R a b → S a b) {as : List α} {bs : List β} (h : All2 R as bs) : All2 S as bs := by
  induction h with
  | nil => exact .nil
  | cons h _ ih => exact .cons (i _ _ h) ih
theorem All2.length {α β : Type} {R : α → β → Prop} {as : List α} {bs : List β} (h : All2 R as bs) : as.length = bs.length := by
  induction h with
  | nil => rfl
  | cons _ _ ih => rw [List.length_cons, List.length_cons, ih]
theorem All2.append {α β : Type} {R : α → β → Prop} {as cs : List α} {bs ds : List β} (h : All2 R as bs) (k : All2 R cs ds) : All2 R (as ++ cs) (bs ++ ds) := by
  induction h with
  | nil => exact k
  | cons h _ ih => exact .cons h ih
theorem All2.get {α β : Type} {R : α → β → Prop} {as : List α} {bs : List β} (h : All2 R as bs) {i : Nat} {a : α} (e : as[i]? = some a) : ∃ b, bs[i]? = some b ∧ R a b := by
  induction h generalizing i with
  | nil => cases e
  | cons h _ ih =>
    cases i with
    | zero => cases e; exact ⟨_, rfl, h⟩
    | succ i => exact ih e
theorem ListIn.mono {α : Type} {R : Led → Value → α → Prop} (Rm : ∀ {l l' : Led} {v : Value} {d : α}, R l v d → (∀ p ∈ l, p ∈ l') → R l' v d) {l l' : Led} {v : Value} {d : List α} (h : ListIn R l v d) (s : ∀ p ∈ l, p ∈ l') : ListIn R l' v d := by
  obtain ⟨a, n, vs, e, h, r⟩ := h
  exact ⟨a, n, vs, e, s _ h, r.imp fun _ _ x => Rm x s⟩
end Mine

end
section
open PySem
namespace Mine
/-- the blocks of lo .. hi by halving the numbers b .. b + 2^j - 1 of a field of W numbers -/
noncomputable def seg (W lo hi : Int) : Nat → Int → List (Int × Int)
  | 0, b => if hi < b ∨ lo ≥ b + 1 then [] else [(b, W - 1)]
  | j + 1, b => if hi < b ∨ lo ≥ b + 2 ^ (j + 1) then [] else if lo ≤ b ∧ b + 2 ^ (j + 1) - 1 ≤ hi then [(b, W - 2 ^ (j + 1))] else seg W lo hi j b ++ seg W lo hi j (b + 2 ^ j)
noncomputable def rm (bits : Nat) (lo hi : Int) : List (Int × Int) := seg (2 ^ bits) lo hi bits 0
noncomputable def Wish.masks (bits : Nat) : Wish → List (Int × Int)
  | .mask v m => [(v, m)]
  | .range lo hi => rm bits lo hi
noncomputable def Wish.ends (bits : Nat) : Wish → Int × Int
  | .mask v m => (v, v + (2 ^ bits - 1 - m))
  | .range lo hi => (lo, hi)
noncomputable def maskWithin (d d' : Int × Int) : Bool := Builtin.bitAnd d.2 d'.2 == d'.2 && Builtin.bitAnd d.1 d'.2 == d'.1
noncomputable def masksMeet (d d' : Int × Int) : Bool := Builtin.bitAnd (Builtin.bitAnd (Builtin.bitXor d.1 d'.1) d.2) d'.2 == 0
noncomputable def Wish.within (bits : Nat) (one other : Wish) : Bool := match other with
  | .range lo hi => decide (lo ≤ (one.ends bits).1) && decide ((one.ends bits).2 ≤ hi)
  | .mask v m => (one.masks bits).all fun p => maskWithin p (v, m)
noncomputable def Wish.meets (bits : Nat) (one other : Wish) : Bool := match one, other with
  | .range a b, .range c d => decide (a ≤ d) && decide (c ≤ b)
  | _, _ => (one.masks bits).any fun p => (other.masks bits).any fun q => masksMeet p q
noncomputable def Wish.ok (bits : Nat) : Wish → Prop
  | .mask v m => 0 ≤ m ∧ m < 2 ^ bits ∧ Builtin.bitAnd v m = v
  | .range lo hi => 0 ≤ lo ∧ lo ≤ hi ∧ hi < 2 ^ bits
end Mine
namespace Mine
noncomputable def Wish.has (d : Wish) (n : Int) : Bool := match d with
  | .mask v m => Builtin.bitAnd n m == v
  | .range lo hi => decide (lo ≤ n) && decide (n ≤ hi)
noncomputable def upto (k : Nat) : List Int := (List.range k).map fun i : Nat => (i : Int)
noncomputable def Wish.nums (bits : Nat) (d : Wish) : List Int := (upto (2 ^ bits)).filter d.has
inductive IntsIn (news : Led) (v : Value) (ns : List Int) : Prop
  | of9 : ∀ (a : Addr) (n : Nat) (vs : List Value), (v = .ref a) → ((a, W.listOf vs.toArray n) ∈ news) → (PyProof.Rows.IntsAre vs ns) → IntsIn news v ns
theorem IntsIn.mono {l l' : Led} {v : Value} {ns : List Int} (h : IntsIn l v ns) (s : ∀ p ∈ l, p ∈ l') : IntsIn l' v ns := by
  obtain ⟨a, n, vs, e, h, r⟩ := h
  exact ⟨a, n, vs, e, s _ h, r⟩
end Mine
namespace Mine
theorem upto_succ (k : Nat) : upto (k + 1) = upto k ++ [(k : Int)] := by simp [upto, List.range_succ]
theorem pow_le256 {bits : Nat} (h : bits ≤ 8) : (2 : Nat) ^ bits ≤ 256 := Nat.pow_le_pow_right (by decide) h
theorem IntsAre_snoc {vs : List Value} {ns : List Int} {n : Int} {t : Tok} (h : PyProof.Rows.IntsAre vs ns) : PyProof.Rows.IntsAre (vs ++ [.int n t]) (ns ++ [n]) := by
  induction h with
  | nil => exact .cons _ _ .nil
  | cons a b _ ih => exact .cons a b ih
end Mine
namespace Mine
theorem ipow_le {a b : Nat} (h : a ≤ b) : (2 : Int) ^ a ≤ 2 ^ b := by exact_mod_cast Nat.pow_le_pow_right (by decide) h
theorem ipow_dvd {a b : Nat} (h : a ≤ b) : (2 : Int) ^ a ∣ 2 ^ b := ⟨2 ^ (b - a), by rw [← Int.pow_add]; congr 1; omega⟩
end Mine
namespace Mine
theorem IntsAre_get {vs : List Value} {ns : List Int} (h : PyProof.Rows.IntsAre vs ns) {i : Nat} {v : Value} (e : vs[i]? = some v) : ∃ n t, v = .int n t ∧ ns[i]? = some n := by
  induction h generalizing i with
  | nil => cases e
  | cons n t _ ih =>
    cases i with
    | zero => cases e; exact ⟨n, t, rfl, rfl⟩
    | succ i => exact ih e
theorem filter_take_snoc {ns : List Int} {i : Nat} {n : Int} (p : Int → Bool) (h : ns[i]? = some n) : (ns.take (i + 1)).filter p = (ns.take i).filter p ++ (if p n then [n] else []) := by
  rw [List.take_add_one, h, List.filter_append]
  cases hp : p n <;> simp [hp]
end Mine
namespace Mine
/-- the value is an object above all cells of the ledger -/
noncomputable def Fresh (news : Led) (r : Value) : Prop := ∀ a : Addr, r = .ref a → ∀ q ∈ news, q.1 < a
theorem Fresh.mk {news : Led} {a : Addr} (h : ∀ q ∈ news, q.1 < a) : Fresh news (.ref a) := fun b e => by cases e; exact h
theorem Fresh.tl {news tl : Led} {a : Addr} {o : Obj} (f : Fresh news (.ref a)) (h : (a, o) ∈ news ++ tl) : (a, o) ∈ tl := by
  rcases List.mem_append.mp h with h | h
  · exact absurd (f a rfl _ h) (Nat.lt_irrefl a)
  · exact h
end Mine

end
section
open PySem PySem.W PyProof.Rows PySem.Spec PySem.Calls
set_option maxRecDepth 100000
namespace Mine
section
variable {prog : Program} {w : World} {A : Around} {E : Value → Shared → Prop} {s : Shared} {h₀ : Heap} {L : Addr} {m : Str → Option Value} {news : Led}
theorem tup_tail {value slice : Expr} {t : Addr} {x y z : Value} {n : Nat} {u : Tok} {Q : Value → Shared → Prop}
    (F : Fr h₀ L s.heap m) (N : News h₀ L s.heap news) (hm : (t, tupO [x, y, z] n) ∈ news)
    (h : ∀ D h', Fr h₀ L h' m → News h₀ L h' ((D, tupO [y, z] 0) :: news) → (∀ p ∈ news, p.1 < D) → Q (.ref D) { s with heap := h' })
    (hs : subscripted slice false (.ref t) (.ref s.heap.objs.size) = operate [.ref s.heap.objs.size, .ref t] (getItem (.ref t) (.ref s.heap.objs.size)))
    (hg : ∀ r, letTemporaryGo value (.ref t) r = pure ()) :
    wpAny (model prog w) A (subscriptTail value slice (.ref t) (.ref s.heap.objs.size)) Q E { s with heap := s.heap.push { cls := .type "slice", data := .fields #[.int 1 u, .none, .none] } } :=
  slice_tuple_from (a := 1) (items := [x, y, z].toArray) F N (News.isTup N hm) (by decide) (by show 1 ≤ 3; decide) (fun h' F' N' => h _ h' F' N' fun p hp => Nat.lt_succ_of_lt (Heap.lt_size (N p hp).1)) hs hg (by show 3 ≤ sizeLine; decide)
end
end Mine
namespace Mine
section
variable {h₀ h : Heap} {L D : Addr} {a b c : Addr × Obj} {news tl tl' led : Led}
theorem News.sub (N : News h₀ L h led) (s : ∀ p ∈ news, p ∈ led) : News h₀ L h news := fun p hp => N p (s p hp)
theorem tl2 (N : News h₀ L h (a :: b :: news)) : News h₀ L h (news ++ [a, b]) := fun p hp => N p (by simp only [List.mem_append, List.mem_cons, List.not_mem_nil, or_false] at hp ⊢; rcases hp with h | h | h <;> simp [h])
theorem tl3 (N : News h₀ L h (a :: b :: c :: news)) : News h₀ L h (news ++ [a, b, c]) := fun p hp => N p (by simp only [List.mem_append, List.mem_cons, List.not_mem_nil, or_false] at hp ⊢; rcases hp with h | h | h | h <;> simp [h])
theorem tlb2 (N : News h₀ L h (a :: b :: (news ++ tl))) : News h₀ L h (news ++ (a :: b :: tl)) := fun p hp => N p (by simp only [List.mem_append, List.mem_cons] at hp ⊢; rcases hp with h | h | h | h <;> simp [h])
theorem tlb3 (N : News h₀ L h (a :: b :: c :: (news ++ tl))) : News h₀ L h (news ++ (a :: b :: c :: tl)) := fun p hp => N p (by simp only [List.mem_append, List.mem_cons] at hp ⊢; rcases hp with h | h | h | h | h <;> simp [h])
theorem ord_cons {o : Obj} (h1 : ∀ q ∈ news, q.1 < D) (h2 : ∀ q ∈ news, ∀ p ∈ tl, q.1 < p.1) : ∀ q ∈ news, ∀ p ∈ (D, o) :: tl, q.1 < p.1 := by
  intro q hq p hp
  rcases List.mem_cons.mp hp with rfl | hp
  · exact h1 q hq
  · exact h2 q hq p hp
theorem ord_app (h1 : ∀ q ∈ news, ∀ p ∈ tl, q.1 < p.1) (h2 : ∀ q ∈ news, ∀ p ∈ tl', q.1 < p.1) : ∀ q ∈ news, ∀ p ∈ tl ++ tl', q.1 < p.1 := by
  intro q hq p hp
  rcases List.mem_append.mp hp with hp | hp
  · exact h1 q hq p hp
  · exact h2 q hq p hp
theorem ord_sub (h : ∀ q ∈ led, ∀ p ∈ tl, q.1 < p.1) (s : ∀ q ∈ news, q ∈ led) : ∀ q ∈ news, ∀ p ∈ tl, q.1 < p.1 := fun q hq => h q (s q hq)
theorem lt_sub (h : ∀ q ∈ led, q.1 < D) (s : ∀ q ∈ news, q ∈ led) : ∀ q ∈ news, q.1 < D := fun q hq => h q (s q hq)
theorem lt_all (h : AllLt D led) (s : ∀ q ∈ news, q ∈ led) : ∀ q ∈ news, q.1 < D := fun q hq => ktn_ltOf h q (s q hq)
theorem lt_and {P : Prop} (h : P ∧ AllLt D led) (s : ∀ q ∈ news, q ∈ led) : ∀ q ∈ news, q.1 < D := lt_all h.2 s
theorem lt_and2 {P Q : Prop} (h : P ∧ Q ∧ AllLt D led) (s : ∀ q ∈ news, q ∈ led) : ∀ q ∈ news, q.1 < D := lt_all h.2.2 s
theorem lt_and3 {P Q R : Prop} (h : P ∧ Q ∧ R ∧ AllLt D led) (s : ∀ q ∈ news, q ∈ led) : ∀ q ∈ news, q.1 < D := lt_all h.2.2.2 s
theorem lt_and4 {P Q R S : Prop} (h : P ∧ Q ∧ R ∧ S ∧ AllLt D led) (s : ∀ q ∈ news, q ∈ led) : ∀ q ∈ news, q.1 < D := lt_all h.2.2.2.2 s
theorem lt_and5 {P Q R S T : Prop} (h : P ∧ Q ∧ R ∧ S ∧ T ∧ AllLt D led) (s : ∀ q ∈ news, q ∈ led) : ∀ q ∈ news, q.1 < D := lt_all h.2.2.2.2.2 s
-- one list lies in another
theorem sub_refl : ∀ q ∈ news, q ∈ news := fun _ h => h
theorem sub_cons (s : ∀ q ∈ news, q ∈ led) : ∀ q ∈ news, q ∈ a :: led := fun q hq => .tail _ (s q hq)
theorem sub_appL (s : ∀ q ∈ news, q ∈ led) : ∀ q ∈ news, q ∈ led ++ tl := fun q hq => List.mem_append.mpr (.inl (s q hq))
theorem sub_appR (s : ∀ q ∈ news, q ∈ tl) : ∀ q ∈ news, q ∈ led ++ tl := fun q hq => List.mem_append.mpr (.inr (s q hq))
theorem sub_of_cons (h : a ∈ led) (s : ∀ q ∈ news, q ∈ led) : ∀ q ∈ a :: news, q ∈ led := fun q hq => (List.mem_cons.mp hq).elim (fun e => e ▸ h) (s q)
theorem sub_of_app (h : ∀ q ∈ tl, q ∈ led) (s : ∀ q ∈ news, q ∈ led) : ∀ q ∈ tl ++ news, q ∈ led := fun q hq => (List.mem_append.mp hq).elim (h q) (s q)
theorem sub_nil : ∀ q ∈ ([] : Led), q ∈ led := fun _ h => nomatch h
end
end Mine
namespace Mine
/-- the same for a def that turns one object of the ledger -/
noncomputable def SaysM (w : World) (f : Addr) (dd uu : Nat) (a : Addr) (o : Obj) (news : Led) (vs : List Value) (Post : Obj → Led → Value → Prop) : Prop :=
  ∀ (mean : ExcName → Option Value) (mg mb : Str → Option Value) (dp un : Nat) (gd : Option (List Code)) (cn : Str) (cs : Scope) (ca : Addr) (ccd : Value) (cl : List (Str × Addr)) (outer : List Env) (A₀ : Around) (base h₀ : Heap) (L : Addr) (m : Str → Option Value) (s : Shared)
    (Q E : Value → Shared → Prop),
    Below A₀ base outer h₀ → Fr h₀ L s.heap m → (Mine.hd.heap_1 w.params).In h₀ → News h₀ L s.heap ((a, o) :: news) → Top vw lse mean mg mb h₀ → cs.kind = .function → dp + dd < recursionLimit → un + uu < cLine → (∀ p ∈ news, p.1 ≠ a) →
    (∀ r o' tl h' tk', Fr h₀ L h' m → News h₀ L h' ((a, o') :: (news ++ tl)) → (∀ q ∈ (a, o) :: news, ∀ p ∈ tl, q.1 < p.1) → Post o' (news ++ tl) r → Q r { s with heap := h', toks := tk' }) →
    wpAny (model prg w) (ktrTop dp un gd cn cs L ca ccd cl outer) (call (.ref f) vs) Q E s
theorem SaysM.use {w : World} {f : Addr} {dd uu : Nat} {a : Addr} {o : Obj} {news led : Led} {vs : List Value} {Post : Obj → Led → Value → Prop} (H : SaysM w f dd uu a o news vs Post)
    {mean : ExcName → Option Value} {mg mb : Str → Option Value} {dp un : Nat} {gd : Option (List Code)} {cn : Str} {cs : Scope} {ca : Addr} {ccd : Value} {cl : List (Str × Addr)} {outer : List Env} {A₀ : Around} {base h₀ : Heap} {L : Addr} {m : Str → Option Value} {s : Shared}
    {Q E : Value → Shared → Prop} (B : Below A₀ base outer h₀) (F : Fr h₀ L s.heap m) (X : (Mine.hd.heap_1 w.params).In h₀) (N : News h₀ L s.heap led) (hs : ∀ p ∈ (a, o) :: news, p ∈ led) (T : Top vw lse mean mg mb h₀) (hk : cs.kind = .function) (hd : dp + dd < recursionLimit) (hu : un + uu < cLine) (hne : ∀ p ∈ news, p.1 ≠ a)
    (ret : ∀ r o' tl h' tk', Fr h₀ L h' m → News h₀ L h' ((a, o') :: (news ++ tl)) → (∀ q ∈ (a, o) :: news, ∀ p ∈ tl, q.1 < p.1) → Post o' (news ++ tl) r → Q r { s with heap := h', toks := tk' }) :
    wpAny (model prg w) (ktrTop dp un gd cn cs L ca ccd cl outer) (call (.ref f) vs) Q E s := H _ _ _ _ _ _ _ _ _ _ _ _ _ _ _ _ _ _ _ _ B F X (fun p hp => N p (hs p hp)) T hk hd hu hne ret
noncomputable def SrcOk (o : Obj) : Prop := ∃ (x y : Int) (t u : Tok) (n : Nat), o = listOf #[.int x t, .int y u] n ∧ 0 ≤ x ∧ 0 ≤ y ∧ y < 2147483647
end Mine
namespace Mine
section
variable {a : Addr} {o o' : Obj} {e1 e2 e3 e4 e5 : Addr × Obj} {news tl led : Led}
theorem split0 : ∀ p ∈ (a, o) :: news, p ∈ (a, o) :: news := fun _ h => h
theorem split1 : ∀ p ∈ (a, o) :: e1 :: news, p ∈ e1 :: (a, o) :: news := fun p h => by simp only [List.mem_cons] at h ⊢; rcases h with h | h | h <;> simp [h]
theorem split2 : ∀ p ∈ (a, o) :: e1 :: e2 :: news, p ∈ e1 :: e2 :: (a, o) :: news := fun p h => by simp only [List.mem_cons] at h ⊢; rcases h with h | h | h | h <;> simp [h]
theorem split3 : ∀ p ∈ (a, o) :: e1 :: e2 :: e3 :: news, p ∈ e1 :: e2 :: e3 :: (a, o) :: news := fun p h => by simp only [List.mem_cons] at h ⊢; rcases h with h | h | h | h | h <;> simp [h]
theorem split4 : ∀ p ∈ (a, o) :: e1 :: e2 :: e3 :: e4 :: news, p ∈ e1 :: e2 :: e3 :: e4 :: (a, o) :: news := fun p h => by simp only [List.mem_cons] at h ⊢; rcases h with h | h | h | h | h | h <;> simp [h]
theorem split5 : ∀ p ∈ (a, o) :: e1 :: e2 :: e3 :: e4 :: e5 :: news, p ∈ e1 :: e2 :: e3 :: e4 :: e5 :: (a, o) :: news := fun p h => by simp only [List.mem_cons] at h ⊢; rcases h with h | h | h | h | h | h | h <;> simp [h]
theorem ne_nil : ∀ p ∈ ([] : Led), p.1 ≠ a := fun _ h => nomatch h
theorem ne_cons {b : Addr} (h : b ≠ a) (k : ∀ p ∈ news, p.1 ≠ a) : ∀ p ∈ (b, o) :: news, p.1 ≠ a := fun p hp => (List.mem_cons.mp hp).elim (fun e => e ▸ h) (k p)
theorem ne_app (h : ∀ p ∈ news, p.1 ≠ a) (k : ∀ p ∈ tl, p.1 ≠ a) : ∀ p ∈ news ++ tl, p.1 ≠ a := fun p hp => (List.mem_append.mp hp).elim (h p) (k p)
theorem ne_above (h : ∀ q ∈ led, ∀ p ∈ tl, q.1 < p.1) (hm : (a, o) ∈ led) : ∀ p ∈ tl, p.1 ≠ a := fun p hp => Nat.ne_of_gt (h _ hm p hp)
theorem ne_sub (h : ∀ p ∈ led, p.1 ≠ a) (s : ∀ p ∈ news, p ∈ led) : ∀ p ∈ news, p.1 ≠ a := fun p hp => h p (s p hp)
theorem ne_lt (h : ∀ q ∈ led, q.1 < a) (s : ∀ p ∈ news, p ∈ led) : ∀ p ∈ news, p.1 ≠ a := fun p hp => Nat.ne_of_lt (h p (s p hp))
end
end Mine
namespace Mine
section
variable {a D : Addr} {o : Obj} {news tl led : Led} {p : Addr × Obj}
theorem lt_nil : ∀ q ∈ ([] : Led), q.1 < D := fun _ h => nomatch h
theorem lt_cons (h : a < D) (k : ∀ q ∈ news, q.1 < D) : ∀ q ∈ (a, o) :: news, q.1 < D := fun q hq => (List.mem_cons.mp hq).elim (fun e => e ▸ h) (k q)
theorem at_lt (h : ∀ q ∈ led, q.1 < D) (hm : (a, o) ∈ led) : a < D := h _ hm
theorem at_above {o' : Obj} (h : ∀ q ∈ led, ∀ p ∈ tl, q.1 < p.1) (hm : (a, o) ∈ led) (hp : (D, o') ∈ tl) : a < D := h _ hm _ hp
end
end Mine
namespace Mine
theorem ne_lts {a : Addr} {news : Led} (h : ∀ q ∈ news, q.1 < a) : ∀ p ∈ news, p.1 ≠ a := fun p hp => Nat.ne_of_lt (h p hp)
end Mine
namespace Mine
theorem WishIn.isRef {l : Led} {v : Value} {d : Wish} (h : WishIn l v d) : ∃ a, v = .ref a := by cases h <;> exact ⟨_, rfl⟩
/-- the wishes of a rule: of field 4, of field 7 -/
noncomputable abbrev WD := Option Wish × Option Wish
inductive KvIn (news : Led) : List (Int × Value) → WD → Prop
  | none : KvIn news [] (none, none)
  | four {v : Value} {x : Wish} : WishIn news v x → KvIn news [(4, v)] (some x, none)
  | seven {v : Value} {x : Wish} : WishIn news v x → KvIn news [(7, v)] (none, some x)
  | both {v u : Value} {x y : Wish} : WishIn news v x → WishIn news u y → KvIn news [(4, v), (7, u)] (some x, some y)
theorem KvIn.mono {l l' : Led} {kvs : List (Int × Value)} {d : WD} (h : KvIn l kvs d) (s : ∀ p ∈ l, p ∈ l') : KvIn l' kvs d := by
  cases h with
  | none => exact .none
  | four a => exact .four (a.mono s)
  | seven a => exact .seven (a.mono s)
  | both a b => exact .both (a.mono s) (b.mono s)
inductive DictIn (w : World) (news : Led) (v : Value) (d : WD) : Prop
  | of9 : ∀ (a : Addr) (o : Obj) (kvs : List (Int × Value)), (v = .ref a) → ((a, o) ∈ news) → ((a == sysModules) = false) → (o.IsDictOf (intKind prg w) kvs) → (KvIn news kvs d) → DictIn w news v d
theorem DictIn.mono {w : World} {l l' : Led} {v : Value} {d : WD} (h : DictIn w l v d) (s : ∀ p ∈ l, p ∈ l') : DictIn w l' v d := by
  obtain ⟨a, o, kvs, e, h, x, y, z⟩ := h
  exact ⟨a, o, kvs, e, s _ h, x, y, z.mono s⟩
noncomputable def WD.ok (d : WD) : Prop := (∀ x, d.1 = some x → x.ok 3) ∧ ∀ x, d.2 = some x → ∃ k n : Int, x = .range (64 * k) (64 * k + n) ∧ 0 ≤ k ∧ k < 4 ∧ 0 ≤ n ∧ n < 5
end Mine
namespace Mine
section
variable {a D : Addr} {o : Obj} {news tl led T : Led} {e1 e2 e3 : Addr × Obj}
theorem ord_left (h1 : ∀ p ∈ tl, a < p.1) (h2 : ∀ q ∈ news, ∀ p ∈ tl, q.1 < p.1) : ∀ q ∈ (a, o) :: news, ∀ p ∈ tl, q.1 < p.1 := fun q hq p hp => (List.mem_cons.mp hq).elim (fun e => e ▸ h1 p hp) fun h => h2 q h p hp
theorem above_at (h : ∀ q ∈ led, ∀ p ∈ tl, q.1 < p.1) (hm : (a, o) ∈ led) : ∀ p ∈ tl, a < p.1 := fun p hp => h _ hm p hp
theorem shape1 : ∀ p ∈ (a, o) :: (news ++ (e1 :: e2 :: T)), p ∈ e1 :: (a, o) :: e2 :: (news ++ T) := fun p h => by simp only [List.mem_cons, List.mem_append] at h ⊢; rcases h with h | h | h | h | h <;> simp [h]
theorem shape2 : ∀ p ∈ (a, o) :: (news ++ (e1 :: T)), p ∈ (a, o) :: e1 :: (news ++ T) := fun p h => by simp only [List.mem_cons, List.mem_append] at h ⊢; rcases h with h | h | h | h <;> simp [h]
end
end Mine
namespace Mine
theorem WD.ok4 {x : Wish} (h : x.ok 3) : WD.ok (some x, none) := ⟨fun _ e => (by cases e; exact h), fun _ e => (by cases e)⟩
theorem WD.ok7 {k n : Int} (h0 : 0 ≤ k) (h1 : k < 4) (h2 : 0 ≤ n) (h3 : n < 5) : WD.ok (none, some (.range (k * 64) (k * 64 + n))) := ⟨fun _ e => (by cases e), fun _ e => by cases e; exact ⟨k, n, by rw [Int.mul_comm], h0, h1, h2, h3⟩⟩
theorem WD.ok47 {x : Wish} {k n : Int} (h : x.ok 3) (h0 : 0 ≤ k) (h1 : k < 4) (h2 : 0 ≤ n) (h3 : n < 5) : WD.ok (some x, some (.range (k * 64) (k * 64 + n))) := ⟨fun _ e => (by cases e; exact h), fun _ e => by cases e; exact ⟨k, n, by rw [Int.mul_comm], h0, h1, h2, h3⟩⟩
theorem WD.ok0 : WD.ok (none, none) := ⟨fun _ e => (by cases e), fun _ e => (by cases e)⟩
end Mine
namespace Mine
noncomputable def WD.lot4 (d : WD) : List Int := match d.1 with
  | some x => x.nums 3
  | none => upto 8
noncomputable def WD.lot7 (d : WD) : List Int := match d.2 with
  | some x => x.nums 8
  | none => upto 256
inductive LotIn (news : Led) (v : Value) (l : List Int × List Int) : Prop
  | of9 : ∀ (a : Addr) (n : Nat) (x y : Value), (v = .ref a) → ((a, listOf [x, y].toArray n) ∈ news) → (IntsIn news x l.1) → (IntsIn news y l.2) → LotIn news v l
theorem LotIn.mono {l l' : Led} {v : Value} {d : List Int × List Int} (h : LotIn l v d) (s : ∀ p ∈ l, p ∈ l') : LotIn l' v d := by
  obtain ⟨a, n, x, y, e, h, p, q⟩ := h
  exact ⟨a, n, x, y, e, s _ h, p.mono s, q.mono s⟩
end Mine
namespace Mine
section
variable {prog : Program} {w : World} {A : Around} {E : Value → Shared → Prop} {s : Shared} {h₀ : Heap} {L : Addr} {m : Str → Option Value} {news : Led}
theorem list_upto {r : Addr} {b : Int} {t u v : Tok} {n : Nat} {Q : Value → Shared → Prop} (hh : A.handled = none) (F : Fr h₀ L s.heap m) (N : News h₀ L s.heap news) (hr : IsRange s.heap r 0 b 1 t u v) (hb : b = (n : Int)) (hn : n ≤ 2 ^ 20)
    (h : ∀ D h' tk (ys : List Value) k, Fr h₀ L h' m → News h₀ L h' ((D, listOf (List.toArray ys) k) :: news) → (∀ p ∈ news, p.1 < D) → IntsAre ys (upto n) → Q (.ref D) { s with heap := h', toks := tk }) :
    wpAny (model prog w) A (call (.type "list") [.ref r]) Q E s := by
  subst hb
  refine list_rangeD (n := n) hh F N hr (small_one (by decide) (by decide) (by omega) (by omega)) (by rw [rangeSize_nat]; omega) (by omega) fun h' tk ys F' N' _ h0 _ P C => ?_
  obtain ⟨⟨c', e⟩, _⟩ := id P
  refine h _ h' tk ys c' F' (fun p hp => ?_) (fun p hp => Heap.lt_size (N p hp).1) ?_
  · rcases List.mem_cons.mp hp with rfl | hp
    · exact ⟨e, P.ne_locals F', h0⟩
    · exact N' p hp
  · have e2 : (rangeInts 0 1 n).map PyData.int = (List.range n).map fun i : Nat => PyData.int (i : Int) := by simp [rangeInts]
    rw [e2] at C
    exact C.intsOf
end
end Mine
namespace Mine
theorem mem_sub {p : Addr × Obj} {led led' : Led} (h : p ∈ led) (s : ∀ q ∈ led, q ∈ led') : p ∈ led' := s p h
end Mine
namespace Mine
theorem lt_plus {L : Addr} {news : Led} (k : Nat) (h : ∀ q ∈ news, q.1 < L) : ∀ q ∈ news, q.1 < L + k := fun q hq => Nat.lt_of_lt_of_le (h q hq) (Nat.le_add_right _ _)
end Mine
namespace Mine
/-- one ledger lies in another but for its cells -/
noncomputable def SubC (led led' : Led) : Prop := ∀ p ∈ led, p ∈ led' ∨ ∃ z, p.2.data = .cell z
section
variable {led led' news tl : Led} {p : Addr × Obj} {c : Addr} {o : Obj} {z : Option Value}
theorem subC_nil : SubC [] led' := fun _ h => nomatch h
theorem subC_cell (h : o.data = .cell z) (s : SubC news led') : SubC ((c, o) :: news) led' := fun q hq => (List.mem_cons.mp hq).elim (fun e => .inr ⟨z, e ▸ h⟩) (s q)
theorem subC_cons (h : p ∈ led') (s : SubC news led') : SubC (p :: news) led' := fun q hq => (List.mem_cons.mp hq).elim (fun e => .inl (e ▸ h)) (s q)
theorem subC_app (h : SubC tl led') (s : SubC news led') : SubC (tl ++ news) led' := fun q hq => (List.mem_append.mp hq).elim (h q) (s q)
theorem subC_leaf (s : ∀ q ∈ led, q ∈ led') : SubC led led' := fun q hq => .inl (s q hq)
theorem mem_subC (h : p ∈ led) (hn : ∀ z, p.2.data ≠ .cell z) (s : SubC led led') : p ∈ led' := (s p h).elim id fun ⟨z, e⟩ => absurd e (hn z)
theorem WishIn.monoC {v : Value} {d : Wish} (h : WishIn led v d) (s : SubC led led') : WishIn led' v d := by
  cases h with
  | mask h => exact .mask (mem_subC h (fun z e => nomatch e) s)
  | range h => exact .range (mem_subC h (fun z e => nomatch e) s)
theorem IntsIn.monoC {v : Value} {ns : List Int} (h : IntsIn led v ns) (s : SubC led led') : IntsIn led' v ns := by
  obtain ⟨a, n, vs, e, h, r⟩ := h
  exact ⟨a, n, vs, e, mem_subC h (fun z e => nomatch e) s, r⟩
theorem LotIn.monoC {v : Value} {d : List Int × List Int} (h : LotIn led v d) (s : SubC led led') : LotIn led' v d := by
  obtain ⟨a, n, x, y, e, h, p, q⟩ := h
  exact ⟨a, n, x, y, e, mem_subC h (fun z e => nomatch e) s, p.monoC s, q.monoC s⟩
end
end Mine

end
section
open PySem PySem.W PyProof.Rows PySem.Spec PySem.Calls
set_option maxRecDepth 100000
namespace Mine
section
variable {prog : Program} {w : World} {A : Around} {E : Value → Shared → Prop} {s : Shared} {env : Env} {h₀ : Heap} {L : Addr}

theorem letGo_data {target : Expr} {I : Addr} {v : Value} {o : Obj} {n : String} {Q : Unit → Shared → Prop} (ho : s.heap.get? I = some o) (hc : o.cls = .type n)
    (hn : ["enumerate", "zip", "dict_itemiterator", "dict_reverseitemiterator", "odict_iterator", "itertools.zip_longest", "itertools.pairwise"].contains n = false) (hQ : Q () s) :
    wpAny (model prog w) A (letOwnedTupleGo target (.ref I) v) Q E s := by
  have body : wpAny (model prog w) A (do
      let (.ref r, .ref a) := (Value.ref I, v) | return
      let o ← load r
      match o.cls, o.data with
      | .type n, .fields vs =>
        if ["enumerate", "zip", "dict_itemiterator", "dict_reverseitemiterator", "odict_iterator", "itertools.zip_longest", "itertools.pairwise"].contains n && vs[0]? == some (rawInt a) then
          rule "for.unpacks-the-owned-tuple"
          updateField r 0 .none
      | _, _ => pure ()) Q E s := by
    cases v with
    | ref a =>
      refine wpAny_bind (wpAny_load ho ?_)
      rw [hc]
      cases o.data with
      | fields vs =>
        dsimp only
        rw [if_neg (by intro h9; rw [Bool.and_eq_true] at h9; exact absurd (hn.symm.trans h9.1) (by decide))]
        exact wpAny_pure hQ
      | _ => exact wpAny_pure hQ
    | _ => exact wpAny_pure hQ
  unfold letOwnedTupleGo
  cases target <;> first | exact body | exact wpAny_pure hQ

/-- what a turn of a for leaves behind -/
noncomputable def ForPost (h₀ : Heap) (L : Addr) (J : (Str → Option Value) → Led → Prop) (I : Addr) (oI : Obj) (s₁ : Shared) (Q : Flow → Shared → Prop) (f : Flow) (s₂ : Shared) : Prop :=
  match f with
  | .ret v => Q (.ret v) s₂
  | .brk => Q .next s₂
  | _ => ∃ h' tk m' nx', s₂ = { s₁ with heap := h', toks := tk } ∧ Fr h₀ L h' m' ∧ News h₀ L h' ((I, oI) :: nx') ∧ (∀ p ∈ nx', p.1 ≠ I) ∧ J m' nx'
theorem ForPost.mk {J : (Str → Option Value) → Led → Prop} {I : Addr} {oI : Obj} {s₁ : Shared} {Q : Flow → Shared → Prop} {h' : Heap} {tk : Nat} {m' : Str → Option Value} {nx' led : Led} (F : Fr h₀ L h' m') (N : News h₀ L h' led) (sub : ∀ p ∈ (I, oI) :: nx', p ∈ led) (off : ∀ p ∈ nx', p.1 ≠ I) (j : J m' nx') :
    ForPost h₀ L J I oI s₁ Q .next { s₁ with heap := h', toks := tk } := ⟨h', tk, m', nx', rfl, F, fun p hp => N p (sub p hp), off, j⟩

theorem ForPost.ret {J : (Str → Option Value) → Led → Prop} {I : Addr} {oI : Obj} {s₁ s₂ : Shared} {Q : Flow → Shared → Prop} {v : Value} (h : Q (.ret v) s₂) : ForPost h₀ L J I oI s₁ Q (.ret v) s₂ := h
theorem for_walk {R : Result → Shared → Prop} {target : Expr} {body : List Stmt} {I : Addr} {fp : List Addr} {n : Nat} {P : Nat → Value → Prop} {St : Nat → Heap → Prop} {m₀ : Str → Option Value} {nx₀ : Led} {S : Led → Prop} {cn : String}
    (W : Walks prog w A I fp [I] n P St) (hIo : ∀ i h, St i h → ∃ o, h.get? I = some o ∧ o.cls = .type cn)
    (hcn : ["enumerate", "zip", "dict_itemiterator", "dict_reverseitemiterator", "odict_iterator", "itertools.zip_longest", "itertools.pairwise"].contains cn = false)
    (hSt : ∀ i h h' o nw, St i h → h.get? I = some o → h'.get? I = some o → (∀ b o, h₀.get? b = some o → h'.get? b = some o) → News h₀ L h' nw → S nw → St i h')
    (hst : St 0 s.heap) (F : Fr h₀ L s.heap m₀) (N : News h₀ L s.heap nx₀) (hIL : L ≠ I) (hI₀ : h₀.get? I = none) (off : ∀ p ∈ nx₀, p.1 ≠ I)
    (J : Nat → (Str → Option Value) → Led → Prop) (hj : J 0 m₀ nx₀) (hS : ∀ i m nx, J i m nx → S nx)
    (turn : ∀ i v m nx h tk oI, i < n → P i v → J i m nx → (∀ p ∈ nx, p.1 ≠ I) → Fr h₀ L h m → News h₀ L h ((I, oI) :: nx) →
      wpAny (model prog w) A (assign target env v) (fun _ s₂ => wpAny (model prog w) A (execs body env) (ForPost h₀ L (J (i + 1)) I oI { s with heap := h, toks := tk } (fun f s' => R (.ok f) s')) (notedBy (model prog w) A env fun e s' => R (.error e) s') s₂)
        (notedBy (model prog w) A env fun e s' => R (.error e) s') { s with heap := h, toks := tk })
    (done : ∀ m nx h tk, J n m nx → Fr h₀ L h m → News h₀ L h nx → R (.ok .next) { s with heap := h, toks := tk }) :
    codeAny (model prog w) A (.forLoop target (.ref I) body [] env) R s := by
  have kF : ∀ {h h' : Heap} {m : Str → Option Value}, Fr h₀ L h m → (∀ b o, b ∉ [I] → h.get? b = some o → h'.get? b = some o) → Fr h₀ L h' m := fun F hk =>
    ⟨F.ns.at' fun o e => hk L o (by simpa using hIL) e, fun b o e => hk b o (fun hm => by rw [List.mem_singleton.mp hm, hI₀] at e; cases e) (F.keep b o e), F.above⟩
  have kN : ∀ {h h' : Heap} {nx : Led}, News h₀ L h nx → (∀ b o, b ∉ [I] → h.get? b = some o → h'.get? b = some o) → (∀ p ∈ nx, p.1 ≠ I) → News h₀ L h' nx := fun N hk off p hp =>
    ⟨hk _ _ (by simpa using off p hp) (N p hp).1, (N p hp).2⟩
  refine codeAny_forLoop_any
    (fun k s' => ∃ h' tk m' nx' i, s' = { s with heap := h', toks := tk } ∧ St i h' ∧ Fr h₀ L h' m' ∧ News h₀ L h' nx' ∧ (∀ p ∈ nx', p.1 ≠ I) ∧ J i m' nx' ∧ i ≤ n ∧ k = n + 1 - i) ?_ (n + 1)
    ⟨s.heap, s.toks, m₀, nx₀, 0, rfl, hst, F, N, off, hj, Nat.zero_le _, rfl⟩
  rintro k s' ⟨h', tk, m', nx', i, rfl, hst', F', N', off', hJ, hi, rfl⟩
  by_cases hlt : i < n
  · refine W.item i _ _ _ hlt hst' fun v h₁ tk₁ hP hst₁ hk₁ => ?_
    have F₁ := kF F' hk₁
    have N₁ := kN N' hk₁ off'
    obtain ⟨oI, hoI, hcI⟩ := hIo _ _ hst₁
    have N₁' : News h₀ L h₁ ((I, oI) :: nx') := fun p hp => by
      rcases List.mem_cons.mp hp with rfl | hp
      · exact ⟨hoI, Ne.symm hIL, hI₀⟩
      · exact N₁ p hp
    dsimp only
    refine letGo_data (n := cn) hoI hcI hcn (wpAny_mono (turn i v m' nx' h₁ tk₁ oI hlt hP hJ off' F₁ N₁') (fun _ s₂ h₂ => wpAny_mono h₂ (fun f s₃ h₃ => ?_) fun _ _ e => e) fun _ _ e => e)
    have go : (∃ h' tk m' nx', s₃ = { ({ s with heap := h₁, toks := tk₁ } : Shared) with heap := h', toks := tk } ∧ Fr h₀ L h' m' ∧ News h₀ L h' ((I, oI) :: nx') ∧ (∀ p ∈ nx', p.1 ≠ I) ∧ J (i + 1) m' nx') →
        ∃ m, m < n + 1 - i ∧ ∃ h' tk m' nx' i', s₃ = { s with heap := h', toks := tk } ∧ St i' h' ∧ Fr h₀ L h' m' ∧ News h₀ L h' nx' ∧ (∀ p ∈ nx', p.1 ≠ I) ∧ J i' m' nx' ∧ i' ≤ n ∧ m = n + 1 - i' := by
      rintro ⟨g₃, tk₃, m₃, nx₃, rfl, F₃, N₃, off₃, J₃⟩
      have N₃' : News h₀ L g₃ nx₃ := fun p hp => N₃ p (.tail _ hp)
      exact ⟨n + 1 - (i + 1), by omega, g₃, tk₃, m₃, nx₃, i + 1, rfl, hSt _ _ _ _ _ hst₁ hoI (N₃ _ (.head _)).1 F₃.keep N₃' (hS _ _ _ J₃), F₃, N₃', off₃, J₃, hlt, rfl⟩
    cases f with
    | ret v => exact h₃
    | brk => exact h₃
    | cont => exact go h₃
    | next => exact go h₃
  · have hin : i = n := by omega
    subst hin
    refine W.done _ _ _ hst' fun h₁ tk₁ hk₁ => wpAny_execs_nil ?_
    exact done m' nx' h₁ tk₁ hJ (kF F' hk₁) (kN N' hk₁ off')

theorem list_st' {ax I : Addr} {its : Array Value} {k : Nat} : ∀ i (h h' : Heap) (o : Obj) (nw : Led), (h.IsListIter I ax i ∧ h.IsList ax its) → h.get? I = some o → h'.get? I = some o → (∀ b o, h₀.get? b = some o → h'.get? b = some o) → News h₀ L h' nw → (ax, listOf its k) ∈ nw → (h'.IsListIter I ax i ∧ h'.IsList ax its) :=
  fun i h h' o nw st e e' kp N S => ⟨by obtain ⟨o', q, r⟩ := st.1; rw [e] at q; cases q; exact ⟨o, e', r⟩, ⟨_, (N _ S).1, rfl, k, rfl⟩⟩

/-- the source of a for over a list of the ledger: its state J, its turn, its end -/
inductive ForSrc (prog : Program) (w : World) (A : Around) (h₀ : Heap) (env : Env) (target : Expr) (body : List Stmt) (Q : Flow → Shared → Prop) (E : Value → Shared → Prop) (xv : Value) (s₁ : Shared) : Prop
  | of9 : ∀ l vs k m₀ nx₀, ∀ J : Nat → (Str → Option Value) → Led → Prop, (xv = .ref l) → ((l, listOf (List.toArray vs) k) ∈ nx₀) → (A.handled = none) → (Fr h₀ env.locals s₁.heap m₀) → (News h₀ env.locals s₁.heap nx₀) → (J 0 m₀ nx₀) → (∀ i m nx, J i m nx → (l, listOf (List.toArray vs) k) ∈ nx) → (∀ i v m nx h tk I oI, vs[i]? = some v → J i m nx → (∀ p ∈ nx, p.1 ≠ I) → Fr h₀ env.locals h m → News h₀ env.locals h ((I, oI) :: nx) → wpAny (model prog w) A (assign target env v) (fun _ s₂ => wpAny (model prog w) A (execs body env) (ForPost h₀ env.locals (J (i + 1)) I oI { s₁ with heap := h, toks := tk } Q) E s₂) E { s₁ with heap := h, toks := tk }) → (∀ m nx h tk, J vs.length m nx → Fr h₀ env.locals h m → News h₀ env.locals h nx → Q .next { s₁ with heap := h, toks := tk }) → ForSrc prog w A h₀ env target body Q E xv s₁
theorem ForSrc.mk {target : Expr} {body : List Stmt} {Q : Flow → Shared → Prop} {l : Addr} {vs : List Value} {k : Nat} {m₀ : Str → Option Value} {nx₀ : Led} (J : Nat → (Str → Option Value) → Led → Prop) (hm : (l, listOf (List.toArray vs) k) ∈ nx₀) (hh : A.handled = none) (F : Fr h₀ env.locals s.heap m₀) (N : News h₀ env.locals s.heap nx₀) (j0 : J 0 m₀ nx₀)
    (hS : ∀ i m nx, J i m nx → (l, listOf (List.toArray vs) k) ∈ nx)
    (turn : ∀ i v m nx h tk I oI, vs[i]? = some v → J i m nx → (∀ p ∈ nx, p.1 ≠ I) → Fr h₀ env.locals h m → News h₀ env.locals h ((I, oI) :: nx) →
        wpAny (model prog w) A (assign target env v) (fun _ s₂ => wpAny (model prog w) A (execs body env) (ForPost h₀ env.locals (J (i + 1)) I oI { s with heap := h, toks := tk } Q) E s₂) E { s with heap := h, toks := tk })
    (done : ∀ m nx h tk, J vs.length m nx → Fr h₀ env.locals h m → News h₀ env.locals h nx → Q .next { s with heap := h, toks := tk }) :
    ForSrc prog w A h₀ env target body Q E (.ref l) s := ⟨l, vs, k, m₀, nx₀, J, rfl, hm, hh, F, N, j0, hS, turn, done⟩
inductive ForSrcR (prog : Program) (w : World) (A : Around) (h₀ : Heap) (env : Env) (target : Expr) (body : List Stmt) (Q : Flow → Shared → Prop) (E : Value → Shared → Prop) (xv : Value) (s₁ : Shared) : Prop
  | of9 : ∀ r a b t u v n m₀ nx₀, ∀ J : Nat → (Str → Option Value) → Led → Prop, (xv = .ref r) → (IsRange s₁.heap r a b 1 t u v) → (Builtin.Range.small a b 1 = true) → (Builtin.Range.rangeSize a b 1 = ((n : Nat) : Int)) → (A.handled = none) → (Fr h₀ env.locals s₁.heap m₀) → (News h₀ env.locals s₁.heap nx₀) → (J 0 m₀ nx₀) → (∀ i tv m nx h tk I oI, i < n → J i m nx → (∀ p ∈ nx, p.1 ≠ I) → Fr h₀ env.locals h m → News h₀ env.locals h ((I, oI) :: nx) → wpAny (model prog w) A (assign target env (.int (a + (i : Int)) tv)) (fun _ s₂ => wpAny (model prog w) A (execs body env) (ForPost h₀ env.locals (J (i + 1)) I oI { s₁ with heap := h, toks := tk } Q) E s₂) E { s₁ with heap := h, toks := tk }) → (∀ m nx h tk, J n m nx → Fr h₀ env.locals h m → News h₀ env.locals h nx → Q .next { s₁ with heap := h, toks := tk }) → ForSrcR prog w A h₀ env target body Q E xv s₁
theorem ForSrcR.mk {target : Expr} {body : List Stmt} {Q : Flow → Shared → Prop} {r : Addr} {a b : Int} {t u v : Tok} {n : Nat} {m₀ : Str → Option Value} {nx₀ : Led} (J : Nat → (Str → Option Value) → Led → Prop) (hr : IsRange s.heap r a b 1 t u v) (hsm : Builtin.Range.small a b 1 = true) (hn : Builtin.Range.rangeSize a b 1 = ((n : Nat) : Int))
    (hh : A.handled = none) (F : Fr h₀ env.locals s.heap m₀) (N : News h₀ env.locals s.heap nx₀) (j0 : J 0 m₀ nx₀)
    (turn : ∀ i tv m nx h tk I oI, i < n → J i m nx → (∀ p ∈ nx, p.1 ≠ I) → Fr h₀ env.locals h m → News h₀ env.locals h ((I, oI) :: nx) →
        wpAny (model prog w) A (assign target env (.int (a + (i : Int)) tv)) (fun _ s₂ => wpAny (model prog w) A (execs body env) (ForPost h₀ env.locals (J (i + 1)) I oI { s with heap := h, toks := tk } Q) E s₂) E { s with heap := h, toks := tk })
    (done : ∀ m nx h tk, J n m nx → Fr h₀ env.locals h m → News h₀ env.locals h nx → Q .next { s with heap := h, toks := tk }) :
    ForSrcR prog w A h₀ env target body Q E (.ref r) s := ⟨r, a, b, t, u, v, n, m₀, nx₀, J, rfl, hr, hsm, hn, hh, F, N, j0, turn, done⟩

/-- a for over a list of the ledger -/
theorem for_led {target iter : Expr} {body : List Stmt} {pos : Pos} {Q : Flow → Shared → Prop} {mF : Str → Option Value} (_F : Fr h₀ env.locals s.heap mF)
    (h : wpAny (model prog w) A (eval iter env) (fun xv s₁ => ForSrc prog w A h₀ env target body Q E xv s₁) E s)
    (hs : ∀ x, foldedSetIterable iter env x = pure x := by intro _; rfl)
    (hE : PassesOwn (model prog w) A env E := by passes_own) :
    wpAny (model prog w) A (exec (.For target iter body [] pos) env) Q E s := by
  refine wpAny_For (wpAny_mono h (fun xv s₁ h₁ => ?_) fun _ _ e => e) hs
  obtain ⟨l, vs, k, m₀, nx₀, J, rfl, hm, hh, F, N, hj, hS, turn, done⟩ := h₁
  have hol := (N _ hm).1
  have hls : s₁.heap.IsList l vs.toArray := ⟨_, hol, rfl, k, rfl⟩
  have hne : l ≠ s₁.heap.objs.size := Nat.ne_of_lt (Heap.lt_size hol)
  refine wpAny_pyIter_list hls ?_
  have W := Walks.list (prog := prog) (w := w) hh s₁.heap.objs.size l hne vs.toArray
  have hlen : vs.toArray.size = vs.length := by simp
  rw [hlen] at W
  refine for_walk (h₀ := h₀) (L := env.locals) (cn := "list_iterator") (S := fun nw => (l, listOf (List.toArray vs) k) ∈ nw) W (fun i h st => ?_) (by decide) list_st' ⟨⟨_, Heap.get?_push_size _ rfl, rfl, rfl⟩, hls.at fun o e => Heap.get?_push_of_some _ e⟩ (F.push _) (fun p hp => ⟨Heap.get?_push_of_some _ (N p hp).1, (N p hp).2⟩)
    (Nat.ne_of_lt F.ns.lt) (next_is_new F) (fun p hp => Nat.ne_of_lt (Heap.lt_size (N p hp).1)) J hj hS ?_ ?_
  · obtain ⟨o, e, r⟩ := st.1; exact ⟨o, e, r.1⟩
  · intro i v m nx h tk oI hi hP hJ off F' N'
    have t := turn i v m nx h tk _ oI (by simpa using hP) hJ off F' N'
    exact wpAny_passesOwn hE (wpAny_mono t (fun _ s₂ h₂ => wpAny_passesOwn hE h₂) fun _ _ e => e)
  · intro m nx h tk hJ F' N'
    exact done m nx h tk hJ F' N'

/-- a for over a range by ones -/
theorem for_range {target iter : Expr} {body : List Stmt} {pos : Pos} {Q : Flow → Shared → Prop} {mF : Str → Option Value} (_F : Fr h₀ env.locals s.heap mF)
    (h : wpAny (model prog w) A (eval iter env) (fun xv s₁ => ForSrcR prog w A h₀ env target body Q E xv s₁) E s)
    (hs : ∀ x, foldedSetIterable iter env x = pure x := by intro _; rfl)
    (hE : PassesOwn (model prog w) A env E := by passes_own) :
    wpAny (model prog w) A (exec (.For target iter body [] pos) env) Q E s := by
  refine wpAny_For (wpAny_mono h (fun xv s₁ h₁ => ?_) fun _ _ e => e) hs
  obtain ⟨r, a, b, t, u, v, n, m₀, nx₀, J, rfl, hr, hsm, hn, hh, F, N, hj, turn, done⟩ := h₁
  refine wpAny_pyIter_range hr hsm ?_
  refine for_walk (h₀ := h₀) (L := env.locals) (cn := "range_iterator") (S := fun _ => True) (LCg.range_walks hh a n) (fun i h st => ⟨_, st, rfl⟩) (by decide) LCg.range_st (by show IsRangeIter _ _ _ _ _; rw [hn]; simpa using Heap.get?_push_size _ rfl) (F.push _) (fun p hp => ⟨Heap.get?_push_of_some _ (N p hp).1, (N p hp).2⟩)
    (Nat.ne_of_lt F.ns.lt) (next_is_new F) (fun p hp => Nat.ne_of_lt (Heap.lt_size (N p hp).1)) J hj (fun _ _ _ _ => trivial) ?_ ?_
  · rintro i v m nx h tk oI hi ⟨tv, rfl⟩ hJ off F' N'
    exact wpAny_passesOwn hE (wpAny_mono (turn i tv m nx h tk _ oI hi hJ off F' N') (fun _ s₂ h₂ => wpAny_passesOwn hE h₂) fun _ _ e => e)
  · intro m nx h tk hJ F' N'
    exact done m nx h tk hJ F' N'
end
end Mine
namespace Mine
section
variable {prog : Program} {w : World} {A : Around} {E : Value → Shared → Prop} {s : Shared} {env : Env} {h₀ : Heap} {L : Addr}
noncomputable abbrev Above (nx tl : Led) : Prop := ∀ q ∈ nx, ∀ p ∈ tl, q.1 < p.1
/-- a loop that changes names alone: what stands of the ledger stands, P of the turn's number -/
noncomputable def JK (nx₀ : Led) (stored : List Str) (m₀ : Str → Option Value) (P : Nat → Prop) (i : Nat) (m : Str → Option Value) (nx : Led) : Prop :=
  (∃ tl, nx = nx₀ ++ tl ∧ Above nx₀ tl) ∧ (∀ z, stored.contains z = false → m z = m₀ z) ∧ P i
theorem frame_eq {h : Heap} {stored : List Str} {m m₀ : Str → Option Value} (hm : ∀ z, stored.contains z = false → m z = m₀ z) (F : Fr h₀ L h m) : Fr h₀ L h (fun y => if stored.contains y = true then m y else m₀ y) := by
  have e : (fun y => if stored.contains y = true then m y else m₀ y) = m := by
    funext y
    cases h3 : stored.contains y with
    | true => simp
    | false => simp only [Bool.false_eq_true, if_false]; exact (hm y h3).symm
  rw [e]; exact F
theorem ForSrc.search {target : Expr} {body : List Stmt} {Q : Flow → Shared → Prop} {l : Addr} {vs : List Value} {k : Nat} {m₀ : Str → Option Value} {nx₀ : Led} (stored : List Str) (P : Nat → Prop)
    (hm : (l, listOf (List.toArray vs) k) ∈ nx₀) (hh : A.handled = none) (F : Fr h₀ env.locals s.heap m₀) (N : News h₀ env.locals s.heap nx₀) (p0 : P 0)
    (turn : ∀ (i : Nat) (v : Value) (tl : Led) (u : Str → Option Value) (h : Heap) (tk : Nat) (I : Addr) (oI : Obj), vs[i]? = some v → P i → Above nx₀ tl → (∀ p ∈ nx₀ ++ tl, p.1 ≠ I) → Fr h₀ env.locals h (fun y => if stored.contains y = true then u y else m₀ y) → News h₀ env.locals h ((I, oI) :: (nx₀ ++ tl)) →
        wpAny (model prog w) A (assign target env v) (fun _ s₂ => wpAny (model prog w) A (execs body env) (ForPost h₀ env.locals (JK nx₀ stored m₀ P (i + 1)) I oI { s with heap := h, toks := tk } Q) E s₂) E { s with heap := h, toks := tk })
    (done : ∀ (tl : Led) (u : Str → Option Value) (h : Heap) (tk : Nat), P vs.length → Above nx₀ tl → Fr h₀ env.locals h (fun y => if stored.contains y = true then u y else m₀ y) → News h₀ env.locals h (nx₀ ++ tl) → Q .next { s with heap := h, toks := tk }) :
    ForSrc prog w A h₀ env target body Q E (.ref l) s := by
  refine ForSrc.mk (JK nx₀ stored m₀ P) hm hh F N ⟨⟨[], by simp, fun _ _ _ hp => nomatch hp⟩, fun _ _ => rfl, p0⟩ ?_ ?_ ?_
  · rintro i m nx ⟨⟨tl, rfl, _⟩, _⟩
    exact List.mem_append.mpr (.inl hm)
  · rintro i v m nx h tk I oI hv ⟨⟨tl, rfl, ho⟩, hmm, hp⟩ off F' N'
    exact turn i v tl m h tk I oI hv hp ho off (frame_eq hmm F') N'
  · rintro m nx h tk ⟨⟨tl, rfl, ho⟩, hmm, hp⟩ F' N'
    exact done tl m h tk hp ho (frame_eq hmm F') N'
theorem ForPost.search {nx₀ tl tl' led : Led} {stored : List Str} {m₀ m' : Str → Option Value} {P : Nat → Prop} {i : Nat} {I : Addr} {oI : Obj} {s₁ : Shared} {Q : Flow → Shared → Prop} {h' : Heap} {tk : Nat}
    (off : ∀ p ∈ nx₀ ++ tl, p.1 ≠ I) (F : Fr h₀ L h' m') (N : News h₀ L h' led) (sub : ∀ p ∈ (I, oI) :: (nx₀ ++ (tl ++ tl')), p ∈ led) (o1 : Above nx₀ tl) (o2 : ∀ q ∈ (I, oI) :: nx₀, ∀ p ∈ tl', q.1 < p.1) (hm : ∀ z, stored.contains z = false → m' z = m₀ z) (hp : P (i + 1)) :
    ForPost h₀ L (JK nx₀ stored m₀ P (i + 1)) I oI s₁ Q .next { s₁ with heap := h', toks := tk } := by
  refine ForPost.mk F N sub (fun p hp => ?_) ⟨⟨tl ++ tl', rfl, ord_app o1 (ord_sub o2 fun _ h => .tail _ h)⟩, hm, hp⟩
  rw [← List.append_assoc] at hp
  rcases List.mem_append.mp hp with hp | hp
  · exact off p hp
  · exact Nat.ne_of_gt (o2 _ (.head _) p hp)
end
end Mine
namespace Mine
section
variable {prog : Program} {w : World} {A : Around} {E : Value → Shared → Prop} {s : Shared} {env : Env} {h₀ : Heap} {L : Addr}
/-- a while, as it stands: the walk stops here -/
noncomputable def WhileAt (prog : Program) (w : World) (A : Around) (env : Env) (test : Expr) (body : List Stmt) (pos : Pos) (Q : Flow → Shared → Prop) (E : Value → Shared → Prop) (s : Shared) : Prop := wpAny (model prog w) A (exec (.While test body [] pos) env) Q E s
theorem while_stop {test : Expr} {body : List Stmt} {pos : Pos} {Q : Flow → Shared → Prop} (h : WhileAt prog w A env test body pos Q E s) : wpAny (model prog w) A (exec (.While test body [] pos) env) Q E s := h
noncomputable def WPost (h₀ : Heap) (L : Addr) (s : Shared) (J : Nat → (Str → Option Value) → Led → Prop) (Q : Flow → Shared → Prop) (n : Nat) (f : Flow) (s₃ : Shared) : Prop :=
  match f with
  | .ret v => Q (.ret v) s₃
  | .brk => Q .next s₃
  | _ => ∃ h' tk m' nx' n', s₃ = { s with heap := h', toks := tk } ∧ Fr h₀ L h' m' ∧ News h₀ L h' nx' ∧ n' < n ∧ J n' m' nx'
theorem WPost.ret {J : Nat → (Str → Option Value) → Led → Prop} {Q : Flow → Shared → Prop} {n : Nat} {v : Value} {s₃ : Shared} (h : Q (.ret v) s₃) : WPost h₀ L s J Q n (.ret v) s₃ := h
theorem WPost.mk {J : Nat → (Str → Option Value) → Led → Prop} {Q : Flow → Shared → Prop} {n : Nat} {h' : Heap} {tk : Nat} {m' : Str → Option Value} {nx' led : Led} (n' : Nat) (F : Fr h₀ L h' m') (N : News h₀ L h' led) (sub : ∀ p ∈ nx', p ∈ led) (hn : n' < n) (j : J n' m' nx') :
    WPost h₀ L s J Q n .next { s with heap := h', toks := tk } := ⟨h', tk, m', nx', n', rfl, F, fun p hp => N p (sub p hp), hn, j⟩
theorem while_led {test : Expr} {body : List Stmt} {pos : Pos} {Q : Flow → Shared → Prop} {m₀ : Str → Option Value} {nx₀ led : Led} (J : Nat → (Str → Option Value) → Led → Prop) (n₀ : Nat)
    (F : Fr h₀ L s.heap m₀) (N : News h₀ L s.heap led) (sub : ∀ p ∈ nx₀, p ∈ led) (j0 : J n₀ m₀ nx₀)
    (turn : ∀ (n : Nat) (m : Str → Option Value) (nx : Led) (h : Heap) (tk : Nat), J n m nx → Fr h₀ L h m → News h₀ L h nx →
      wpAny (model prog w) A (isTrue test env (eval test env)) (fun b s₂ => if b = true then wpAny (model prog w) A (execs body env) (WPost h₀ L s J Q n) E s₂ else Q .next s₂) E { s with heap := h, toks := tk })
    (hE : PassesOwn (model prog w) A env E := by passes_own) : WhileAt prog w A env test body pos Q E s := by
  refine While_inv2 J F (fun p hp => N p (sub p hp)) j0 (fun n m nx h tk F' N' j => wpAny_mono (turn n m nx h tk j F' N') (fun b s₂ h₂ => ?_) fun _ _ e => e) hE
  cases b with
  | false => simpa using h₂
  | true =>
    simp only [if_true] at h₂ ⊢
    refine wpAny_mono h₂ (fun f s₃ h₃ => ?_) fun _ _ e => e
    cases f <;> exact h₃
theorem frame_ps {h : Heap} {m m₀ : Str → Option Value} (ps : List (Str × Value)) (stored : List Str) (h1 : ∀ p ∈ ps, m p.1 = some p.2) (h2 : ∀ z, (∀ p ∈ ps, z ≠ p.1) → stored.contains z = false → m z = m₀ z) (F : Fr h₀ L h m) : Fr h₀ L h (kstB (fun z => if stored.contains z then m z else m₀ z) ps) := ksw_fr h1 h2 F
end
end Mine

end
section
open PySem PySem.W PyProof.Rows PySem.Spec PySem.Calls
open LCg (NsObj ns_obj lst lst_snoc Off3 range_walks range_st)
set_option maxRecDepth 100000
namespace Mine
noncomputable abbrev Trip (I C D : Addr) : Prop := (@Ne Nat I C) ∧ (@Ne Nat I D) ∧ (@Ne Nat C D)
section
variable {prog : Program} {w : World} {A : Around} {s : Shared} {h₀ : Heap} {L : Addr} {m : Str → Option Value} {env cenv : Env}

/-- what a turn's body does: the last generator's appends, an outer one's runs the next -/
noncomputable def emitAt (elt : Expr) (gens : List Comprehension) (scope : Scope) (pos : Pos) (d : Nat) (acc : Value) (env : Env) : Sem Unit :=
  match gens[d + 1]? with
  | some g' => do
    let x ← eval g'.iter env
    standAt g'.iter.pos
    let x ← foldedSetIterable g'.iter env x
    let _ ← runOwn (.compStart (.ListComp elt gens scope pos) (d + 1) (← holding [x] (pyIter x)) acc env) env
  | none => do let _ ← call (.builtin "list.append") [acc, ← eval elt env]

theorem compTurn_at {elt : Expr} {gens : List Comprehension} {scope : Scope} {pos : Pos} {d : Nat} {target iter : Expr} {ifs : List Expr} (hg : gens[d]? = some ⟨target, iter, ifs, 0⟩) (ha : ∀ g', gens[d + 1]? = some g' → g'.is_async = 0) (it acc : Value) (env : Env) :
    compTurn (.ListComp elt gens scope pos) d it acc env = (do
      standAt iter.pos
      match ← pyNext it with
      | none => pure (.done .next)
      | some v =>
        letOwnedTupleGo target it v
        assign target env v
        let mut ok := true
        for c in ifs do
          if ok then ok ← isTrue c env (eval c env)
        if ok then
          emitAt elt gens scope pos d acc env
        again (.compLoop (.ListComp elt gens scope pos) d it acc env)) := by
  unfold compTurn emitAt
  simp only [hg]
  cases hq : gens[d + 1]? with
  | none => rfl
  | some g' =>
    obtain ⟨t, i, f, a⟩ := g'
    have e : a = 0 := ha _ hq
    subst e
    simp only [bne_self_eq_false, Bool.false_eq_true, if_false, bind_assoc]
    rfl

inductive CEndM (h₀ : Heap) (L : Addr) (m : Str → Option Value) (I : Addr) (oI : Obj) (C D : Addr) (J : (Str → Option Value) → List Value → Led → Prop) (s₁ s₂ : Shared) : Prop
  | of9 : ∀ h' tk ys' nx' oC' m', (s₂ = { s₁ with heap := h', toks := tk }) → (Fr h₀ L h' m) → (NsObj oC' m') → (News h₀ L h' ((I, oI) :: (C, oC') :: (D, lst ys') :: nx')) → (Off3 I C D nx') → (J m' ys' nx') → CEndM h₀ L m I oI C D J s₁ s₂
inductive CEndYM (h₀ : Heap) (L : Addr) (m : Str → Option Value) (I : Addr) (oI : Obj) (C D : Addr) (J : (Str → Option Value) → List Value → Led → Prop) (s₁ : Shared) (y : Value) (s₂ : Shared) : Prop
  | of9 : ∀ h' tk ys' nx' oC' m', (s₂ = { s₁ with heap := h', toks := tk }) → (Fr h₀ L h' m) → (NsObj oC' m') → (News h₀ L h' ((I, oI) :: (C, oC') :: (D, lst ys') :: nx')) → (Off3 I C D nx') → (ys'.length ≤ sizeLine) → (J m' (ys' ++ [y]) nx') → CEndYM h₀ L m I oI C D J s₁ y s₂
/-- what a turn of a comprehension leaves behind -/
noncomputable def CEnd (h₀ : Heap) (L : Addr) (m : Str → Option Value) (I : Addr) (oI : Obj) (C D : Addr) (J : List Value → Led → Prop) (s₁ s₂ : Shared) : Prop := CEndM h₀ L m I oI C D (fun _ => J) s₁ s₂
/-- the same ahead of the append -/
noncomputable def CEndY (h₀ : Heap) (L : Addr) (m : Str → Option Value) (I : Addr) (oI : Obj) (C D : Addr) (J : List Value → Led → Prop) (s₁ : Shared) (y : Value) (s₂ : Shared) : Prop := CEndYM h₀ L m I oI C D (fun _ => J) s₁ y s₂

theorem emit_last {elt : Expr} {gens : List Comprehension} {scope : Scope} {pos : Pos} {d : Nat} {I C D : Addr} {oI : Obj} {J : List Value → Led → Prop} {s₁ : Shared} {E : Value → Shared → Prop} (hg : gens[d + 1]? = none) (hne : Trip I C D)
    (h : wpAny (model prog w) A (eval elt cenv) (CEndY h₀ L m I oI C D J s₁) E s) :
    wpAny (model prog w) A (emitAt elt gens scope pos d (.ref D) cenv) (fun _ s₂ => CEnd h₀ L m I oI C D J s₁ s₂) E s := by
  unfold emitAt
  rw [hg]
  refine wpAny_bind (wpAny_mono h (fun y s₂ h₂ => ?_) fun _ _ e => e)
  obtain ⟨h', tk, ys', nx', oC', m', rfl, F', hC', N', off, hsz, hJ⟩ := h₂
  have zI := N' (I, oI) List.mem_cons_self
  have zC := N' (C, oC') (List.mem_cons_of_mem _ List.mem_cons_self)
  have zD := N' (D, lst ys') (List.mem_cons_of_mem _ (List.mem_cons_of_mem _ List.mem_cons_self))
  refine wpAny_bind (append_at (hsz := by show ys'.toArray.size ≤ sizeLine; rw [List.size_toArray]; exact hsz) zD.1 fun h₅ hs₅ hD₅ => wpAny_pure ?_)
  refine ⟨h₅, tk, ys' ++ [y], nx', oC', m', rfl, F'.change hs₅ zD.2.1 zD.2.2, hC', fun p hp => ?_, off, hJ⟩
  rcases List.mem_cons.mp hp with rfl | hp
  · exact ⟨hs₅.extBut _ _ hne.2.1 zI.1, zI.2⟩
  rcases List.mem_cons.mp hp with rfl | hp
  · exact ⟨hs₅.extBut _ _ hne.2.2 zC.1, zC.2⟩
  rcases List.mem_cons.mp hp with rfl | hp
  · exact ⟨hD₅.trans (congrArg some (lst_snoc ys' y)), zD.2⟩
  · have z := N' p (.tail _ (.tail _ (.tail _ hp)))
    exact ⟨hs₅.extBut _ _ (off.mem p hp).2.2 z.1, z.2⟩

/-- one generator's loop -/
theorem comp_level {elt : Expr} {gens : List Comprehension} {scope : Scope} {pos : Pos} {d : Nat} {target iter : Expr} {ifs : List Expr} {R : Result → Shared → Prop} {I C D : Addr} {fp : List Addr} {n : Nat} {P : Nat → Value → Prop} {St : Nat → Heap → Prop} {S : Led → Prop} {cn : String} {ys₀ : List Value} {nx₀ : Led} {oC₀ : Obj} {m₀ : Str → Option Value}
    (hg : gens[d]? = some ⟨target, iter, ifs, 0⟩) (ha : ∀ g', gens[d + 1]? = some g' → g'.is_async = 0)
    (W : Walks prog w A I fp [I] n P St) (hIo : ∀ i h, St i h → ∃ o, h.get? I = some o ∧ o.cls = .type cn)
    (hcn : ["enumerate", "zip", "dict_itemiterator", "dict_reverseitemiterator", "odict_iterator", "itertools.zip_longest", "itertools.pairwise"].contains cn = false)
    (hSt : ∀ i h h' o nw, St i h → h.get? I = some o → h'.get? I = some o → (∀ b o, h₀.get? b = some o → h'.get? b = some o) → News h₀ L h' nw → S nw → St i h')
    (hst : St 0 s.heap) (F : Fr h₀ L s.heap m) (hC : NsObj oC₀ m₀) (N : News h₀ L s.heap ((C, oC₀) :: (D, lst ys₀) :: nx₀)) (hIL : L ≠ I) (hI₀ : h₀.get? I = none) (off : Off3 I C D nx₀) (hne : Trip I C D)
    (J : Nat → List Value → Led → Prop) (j0 : J 0 ys₀ nx₀) (hS : ∀ i ys nx, J i ys nx → S nx)
    (turn : ∀ i v ys nx h tk oI oC mC, i < n → P i v → J i ys nx → Off3 I C D nx → Fr h₀ L h m → NsObj oC mC → News h₀ L h ((I, oI) :: (C, oC) :: (D, lst ys) :: nx) →
      ∀ E' : Value → Shared → Prop, wpAny (model prog w) A (assign target cenv v) (fun _ s₂ => wpAny (model prog w) A (forIn ifs true fun c r => if r = true then do let ok ← isTrue c cenv (eval c cenv); pure (ForInStep.yield ok) else pure (ForInStep.yield r)) (fun ok s₃ =>
          if ok = true then wpAny (model prog w) A (emitAt elt gens scope pos d (.ref D) cenv) (fun _ s₄ => CEnd h₀ L m I oI C D (J (i + 1)) { s with heap := h, toks := tk } s₄) E' s₃
          else CEnd h₀ L m I oI C D (J (i + 1)) { s with heap := h, toks := tk } s₃) E' s₂) E' { s with heap := h, toks := tk })
    (done : ∀ ys nx h tk oC mC, J n ys nx → Off3 I C D nx → Fr h₀ L h m → NsObj oC mC → News h₀ L h ((C, oC) :: (D, lst ys) :: nx) → R (.ok .next) { s with heap := h, toks := tk }) :
    codeAny (model prog w) A (.compLoop (.ListComp elt gens scope pos) d (.ref I) (.ref D) cenv) R s := by
  have kF : ∀ {h h' : Heap}, Fr h₀ L h m → (∀ b o, b ∉ [I] → h.get? b = some o → h'.get? b = some o) → Fr h₀ L h' m := fun F hk =>
    ⟨F.ns.at' fun o e => hk L o (by simpa using hIL) e, fun b o e => hk b o (fun hm => by rw [List.mem_singleton.mp hm, hI₀] at e; cases e) (F.keep b o e), F.above⟩
  have kN : ∀ {h h' : Heap} {oC : Obj} {ys : List Value} {nx : Led}, News h₀ L h ((C, oC) :: (D, lst ys) :: nx) → (∀ b o, b ∉ [I] → h.get? b = some o → h'.get? b = some o) → Off3 I C D nx → News h₀ L h' ((C, oC) :: (D, lst ys) :: nx) := fun N hk off p hp => by
    refine ⟨hk _ _ ?_ (N p hp).1, (N p hp).2⟩
    rw [List.mem_singleton]
    rcases List.mem_cons.mp hp with rfl | hp
    · exact Ne.symm hne.1
    rcases List.mem_cons.mp hp with rfl | hp
    · exact Ne.symm hne.2.1
    · exact (off.mem p hp).1
  refine codeAny_loop rfl (fun k s' => ∃ h' tk i ys nx' oC m', s' = { s with heap := h', toks := tk } ∧ i ≤ n ∧ k = n + 1 - i ∧ St i h' ∧ Fr h₀ L h' m ∧ NsObj oC m' ∧ News h₀ L h' ((C, oC) :: (D, lst ys) :: nx') ∧ Off3 I C D nx' ∧ J i ys nx') ?_ (n + 1)
    ⟨s.heap, s.toks, 0, ys₀, nx₀, oC₀, m₀, rfl, Nat.zero_le _, rfl, hst, F, hC, N, off, j0⟩
  rintro k s' ⟨h', tk, i, ys, nx', oC, m', rfl, hi, rfl, hst', F', hC', N', off', hJ⟩
  show wpAny _ A ((compTurn (.ListComp elt gens scope pos) d (.ref I) (.ref D) cenv).onRaise (fun x => do noteFrame x cenv; theTreesLotGoes x)) _ _ _
  refine wpAny_noted ?_
  rw [compTurn_at hg ha]
  refine wpAny_bind (wpAny_standAt (wpAny_bind ?_))
  by_cases hlt : i < n
  · refine W.item i _ _ _ hlt hst' fun v h₁ tk₁ hP hst₁ hk₁ => ?_
    have F₁ := kF F' hk₁
    have N₁ := kN N' hk₁ off'
    obtain ⟨oI, hoI, hcI⟩ := hIo _ _ hst₁
    have N₁' : News h₀ L h₁ ((I, oI) :: (C, oC) :: (D, lst ys) :: nx') := fun p hp => by
      rcases List.mem_cons.mp hp with rfl | hp
      · exact ⟨hoI, Ne.symm hIL, hI₀⟩
      · exact N₁ p hp
    have fin : ∀ s₄, CEnd h₀ L m I oI C D (J (i + 1)) { s with heap := h₁, toks := tk₁ } s₄ → ∃ k, k < n + 1 - i ∧ ∃ h' tk i' ys nx' oC m', s₄ = { s with heap := h', toks := tk } ∧ i' ≤ n ∧ k = n + 1 - i' ∧ St i' h' ∧ Fr h₀ L h' m ∧ NsObj oC m' ∧ News h₀ L h' ((C, oC) :: (D, lst ys) :: nx') ∧ Off3 I C D nx' ∧ J i' ys nx' := by
      rintro s₄ ⟨g, tk₄, ys₄, nx₄, oC₄, m₄, rfl, F₄, hC₄, N₄, off₄, J₄⟩
      have N₄' : News h₀ L g nx₄ := fun p hp => N₄ p (.tail _ (.tail _ (.tail _ hp)))
      exact ⟨n + 1 - (i + 1), by omega, g, tk₄, i + 1, ys₄, nx₄, oC₄, m₄, rfl, hlt, rfl, hSt _ _ _ _ _ hst₁ hoI (N₄ _ (.head _)).1 F₄.keep N₄' (hS _ _ _ J₄), F₄, hC₄, fun p hp => N₄ p (.tail _ hp), off₄, J₄⟩
    refine wpAny_bind (letGo_data (n := cn) hoI hcI hcn (wpAny_bind (wpAny_mono (turn i v ys nx' h₁ tk₁ oI oC m' hlt hP hJ off' F₁ hC' N₁' _) (fun _ s₂ h₂ => wpAny_bind (wpAny_mono h₂ (fun ok s₃ h₃ => ?_) fun _ _ e => e)) fun _ _ e => e)))
    cases ok with
    | false => exact wpAny_pure ⟨rfl, fin _ h₃⟩
    | true => exact wpAny_bind (wpAny_mono h₃ (fun _ s₄ h₄ => wpAny_pure ⟨rfl, fin _ h₄⟩) fun _ _ e => e)
  · obtain rfl : i = n := Nat.le_antisymm hi (Nat.not_lt.mp hlt)
    refine W.done _ _ _ hst' fun h₂ tk₂ hk₂ => wpAny_pure ?_
    exact done ys nx' h₂ tk₂ oC m' hJ off' (kF F' hk₂) hC' (kN N' hk₂ off')

noncomputable def Below3 (nx : Led) (I C D : Addr) : Prop := ∀ q ∈ nx, q.1 < I ∧ q.1 < C ∧ q.1 < D
/-- the turn of a comprehension's first loop, as a goal -/
noncomputable def CTurn (prog : Program) (w : World) (A : Around) (h₀ : Heap) (L : Addr) (m : Str → Option Value) (cenv : Env) (elt target : Expr) (ifs : List Expr) (gens : List Comprehension) (scope : Scope) (pos : Pos) (d : Nat) (I : Addr) (oI : Obj) (C D : Addr) (J : List Value → Led → Prop) (v : Value) (s₁ : Shared) : Prop :=
  ∀ E' : Value → Shared → Prop, wpAny (model prog w) A (assign target cenv v) (fun _ s₂ => wpAny (model prog w) A (forIn ifs true fun c r => if r = true then do let ok ← isTrue c cenv (eval c cenv); pure (ForInStep.yield ok) else pure (ForInStep.yield r)) (fun ok s₃ =>
          if ok = true then wpAny (model prog w) A (emitAt elt gens scope pos d (.ref D) cenv) (fun _ s₄ => CEnd h₀ L m I oI C D J s₁ s₄) E' s₃
          else CEnd h₀ L m I oI C D J s₁ s₃) E' s₂) E' s₁
/-- the state of a comprehension over the ledger nx₀ -/
inductive CJ (nx₀ : Led) (P : Nat → List Value → Led → Prop) (i : Nat) (ys : List Value) (nx : Led) : Prop
  | of9 : ∀ tl, (nx = nx₀ ++ tl) → (Above nx₀ tl) → (P i ys nx) → CJ nx₀ P i ys nx

theorem comp_core {elt target iter : Expr} {ifs : List Expr} {gs : List Comprehension} {scope : Scope} {pos : Pos} {cl : List (Str × Addr)} {s₂ : Shared} {I : Addr} {fp : List Addr} {n : Nat} {PV : Nat → Value → Prop} {St : Nat → Heap → Prop} {S : Led → Prop} {cn : String} {nx₀ : Led} {E : Value → Shared → Prop}
    {RR : Value → Addr → Result → Shared → Prop} (P : Nat → List Value → Led → Prop)
    (hga : ∀ g', gs[0]? = some g' → g'.is_async = 0) (W : Walks prog w A I fp [I] n PV St) (hIo : ∀ i h, St i h → ∃ o, h.get? I = some o ∧ o.cls = .type cn)
    (hcn : ["enumerate", "zip", "dict_itemiterator", "dict_reverseitemiterator", "odict_iterator", "itertools.zip_longest", "itertools.pairwise"].contains cn = false)
    (hSt : ∀ i h h' o nw, St i h → h.get? I = some o → h'.get? I = some o → (∀ b o, h₀.get? b = some o → h'.get? b = some o) → News h₀ L h' nw → S nw → St i h')
    (hcell : ∀ y ∈ scope.names, y.2 ≠ .cell) (hkind : scope.kind = .function) (hst : St 0 s₂.heap) (hfp : ∀ b ∈ fp, b < s₂.heap.objs.size)
    (F : Fr h₀ L s₂.heap m) (N : News h₀ L s₂.heap nx₀) (hIL : L ≠ I) (hI₀ : h₀.get? I = none) (off : ∀ p ∈ nx₀, p.1 < I) (hS : ∀ tl, S (nx₀ ++ tl)) (p0 : P 0 [] nx₀)
    (turn : ∀ (i : Nat) (v : Value) (ys : List Value) (tl : Led) (h : Heap) (tk : Nat) (oI oC : Obj) (C D : Addr) (mC : Str → Option Value), i < n → PV i v → P i ys (nx₀ ++ tl) → Above nx₀ tl → Below3 nx₀ I C D → Off3 I C D (nx₀ ++ tl) → Trip I C D → Fr h₀ L h m → NsObj oC mC → News h₀ L h ((I, oI) :: (C, oC) :: (D, lst ys) :: (nx₀ ++ tl)) →
      CTurn prog w A h₀ L m (compEnvC scope cl C env) elt target ifs (⟨target, iter, ifs, 0⟩ :: gs) scope pos 0 I oI C D (CJ nx₀ P (i + 1)) v { s₂ with heap := h, toks := tk })
    (hRR : ∀ D C h tk m' ys tl oC, P n ys (nx₀ ++ tl) → Above nx₀ tl → (∀ q ∈ nx₀, q.1 < D) → Fr h₀ L h m → News h₀ L h ((D, lst ys) :: (nx₀ ++ tl)) → NsObj oC m' → h.get? C = some oC → h₀.get? C = none → C ≠ L → C ≠ D → (∀ p ∈ nx₀ ++ tl, p.1 ≠ C ∧ p.1 ≠ D) → RR (.ref D) C (.ok .next) { s₂ with heap := h, toks := tk }) :
    wpAny (model prog w) A (newList []) (fun acc s₃ => wpAny (model prog w) A (newFunctionEnv scope env.globals cl [] env.qual none .none (some env)) (fun cenv s₄ =>
      codeAny (model prog w) A (.compStart (.ListComp elt (⟨target, iter, ifs, 0⟩ :: gs) scope pos) 0 (.ref I) acc { cenv with scope := relabel scope env }) (RR acc cenv.locals) s₄) E s₃) E s₂ := by
  refine wpAny_newObj_type (wpAny_newFunctionEnv hcell (by intro y hy; simp at hy) (fun h₁ hns₁ hsb₁ => ?_) hkind)
  dsimp only at hns₁ hsb₁ ⊢
  generalize hH2 : s₂.heap.push { cls := .type "list", dict := none, data := .seq ([] : List Value).toArray } = H2 at hns₁ hsb₁ ⊢
  have hC : H2.objs.size = s₂.heap.objs.size + 1 := by rw [← hH2, Heap.size_push]
  have hDC : s₂.heap.objs.size ≠ H2.objs.size := by rw [hC]; exact Nat.ne_of_lt (Nat.lt_succ_self _)
  have below : ∀ b, b < s₂.heap.objs.size → b ≠ H2.objs.size ∧ b ≠ s₂.heap.objs.size := fun b hb => ⟨by rw [hC]; exact Nat.ne_of_lt (Nat.lt_succ_of_lt hb), Nat.ne_of_lt hb⟩
  have hIlt : I < s₂.heap.objs.size := hfp I (W.sub I (List.mem_singleton.mpr rfl))
  have old : ∀ b o, s₂.heap.get? b = some o → h₁.get? b = some o := fun b o e => hsb₁.extBut b o (below b (Heap.lt_size e)).1 (Heap.get?_push_of_some _ (hH2 ▸ Heap.get?_push_of_some _ e))
  have hacc : h₁.get? s₂.heap.objs.size = some (lst []) := hsb₁.extBut _ _ hDC (Heap.get?_push_of_some _ (hH2 ▸ Heap.get?_push_size _ rfl))
  have hst₁ : St 0 h₁ := W.frame _ _ _ hst fun b _ o e => old b o e
  have fresh₀ : ∀ a, s₂.heap.objs.size ≤ a → h₀.get? a = none := fun a ha => by
    cases e : h₀.get? a with
    | none => rfl
    | some o' => exact absurd (Heap.lt_size (F.keep a o' e)) (Nat.not_lt.mpr ha)
  have hD₀ : h₀.get? s₂.heap.objs.size = none := fresh₀ _ (Nat.le_refl _)
  have hC₀ : h₀.get? H2.objs.size = none := fresh₀ _ (by rw [hC]; exact Nat.le_succ _)
  have hLlt : L < s₂.heap.objs.size := F.ns.lt
  have hDL : s₂.heap.objs.size ≠ L := Ne.symm (below L hLlt).2
  have hCL : H2.objs.size ≠ L := Ne.symm (below L hLlt).1
  have hCI : I ≠ H2.objs.size := (below I hIlt).1
  have hDI : I ≠ s₂.heap.objs.size := (below I hIlt).2
  have hne : Trip I H2.objs.size s₂.heap.objs.size := ⟨hCI, hDI, Ne.symm hDC⟩
  have off₀ : Off3 I H2.objs.size s₂.heap.objs.size nx₀ := Off3.of fun p hp => ⟨Nat.ne_of_lt (off p hp), (below _ (Heap.lt_size (N p hp).1)).1, (below _ (Heap.lt_size (N p hp).1)).2⟩
  have b3 : Below3 nx₀ I H2.objs.size s₂.heap.objs.size := fun p hp => ⟨off p hp, by rw [hC]; exact Nat.lt_succ_of_lt (Heap.lt_size (N p hp).1), Heap.lt_size (N p hp).1⟩
  obtain ⟨oC₀, heC, hoC⟩ := ns_obj hns₁
  have F₁ : Fr h₀ L h₁ m := F.keeps old
  have N₁ : News h₀ L h₁ ((H2.objs.size, oC₀) :: (s₂.heap.objs.size, lst []) :: nx₀) := fun p hp => by
    rcases List.mem_cons.mp hp with rfl | hp
    · exact ⟨heC, hCL, hC₀⟩
    rcases List.mem_cons.mp hp with rfl | hp
    · exact ⟨hacc, hDL, hD₀⟩
    · exact ⟨old _ _ (N p hp).1, (N p hp).2⟩
  have loop : ∀ s₃ : Shared, s₃ = { s₂ with heap := h₁, toks := s₂.toks + ([] : List (Str × Value)).length } →
      codeAny (model prog w) A (.compLoop (.ListComp elt (⟨target, iter, ifs, 0⟩ :: gs) scope pos) 0 (.ref I) (.ref s₂.heap.objs.size) (compEnvC scope cl H2.objs.size env))
        (RR (.ref s₂.heap.objs.size) H2.objs.size) s₃ := by
    rintro s₃ rfl
    refine comp_level (S := S) (cn := cn) (elt := elt) (scope := scope) (pos := pos) rfl hga W hIo hcn hSt hst₁ F₁ hoC N₁ hIL hI₀ off₀ hne (CJ nx₀ P) ⟨[], by simp, ktn_ord0, p0⟩ ?_ ?_ ?_
    · rintro i ys nx ⟨tl, rfl, _⟩
      exact hS tl
    · rintro i v ys nx h tk oI oC mC hi hP ⟨tl, rfl, ha, hp⟩ off' F' hC' N'
      exact turn i v ys tl h tk oI oC _ _ mC hi hP hp ha b3 off' hne F' hC' N'
    · rintro ys nx h tk oC mC ⟨tl, rfl, ha, hp⟩ off' F' hC' N'
      exact hRR _ _ h tk mC ys tl oC hp ha (fun q hq => (b3 q hq).2.2) F' (fun p hp => N' p (.tail _ hp)) hC' (N' _ (.head _)).1 hC₀ hCL (Ne.symm hDC) (fun p hp => (off'.mem p hp).2)
  exact codeAny_compStart_list (loop _ rfl) (W.self 0 _ _ _ hst₁ (loop _ rfl))

/-- the source of a comprehension: its state, its turn, its end -/
noncomputable def CSrc (prog : Program) (w : World) (A : Around) (h₀ : Heap) (L : Addr) (m : Str → Option Value) (env : Env) (elt target iter : Expr) (ifs : List Expr) (gs : List Comprehension) (scope : Scope) (pos : Pos) (cl : List (Str × Addr)) (E : Value → Shared → Prop) (K : Addr → List Value → Led → Shared → Prop) (xv : Value) (s₁ : Shared) : Prop :=
  ∀ RR : Value → Addr → Result → Shared → Prop, (∀ D C s' m' ys nx oC, (∃ h tk, s' = { s₁ with heap := h, toks := tk }) → Fr h₀ L s'.heap m → News h₀ L s'.heap ((D, lst ys) :: nx) → NsObj oC m' → s'.heap.get? C = some oC → h₀.get? C = none → C ≠ L → C ≠ D → (∀ p ∈ nx, p.1 ≠ C ∧ p.1 ≠ D) → K D ys nx s' → RR (.ref D) C (.ok .next) s') →
    wpAny (model prog w) A (pyIter xv) (fun it s₂ => wpAny (model prog w) A (newList []) (fun acc s₃ => wpAny (model prog w) A (newFunctionEnv scope env.globals cl [] env.qual none .none (some env)) (fun cenv s₄ =>
      codeAny (model prog w) A (.compStart (.ListComp elt (⟨target, iter, ifs, 0⟩ :: gs) scope pos) 0 it acc { cenv with scope := relabel scope env }) (RR acc cenv.locals) s₄) E s₃) E s₂) E s₁

theorem CSrc.list {elt target iter : Expr} {ifs : List Expr} {gs : List Comprehension} {scope : Scope} {pos : Pos} {cl : List (Str × Addr)} {l : Addr} {vs : List Value} {k : Nat} {nx₀ : Led} {E : Value → Shared → Prop} {K : Addr → List Value → Led → Shared → Prop} (P : Nat → List Value → Led → Prop)
    (hm : (l, listOf (List.toArray vs) k) ∈ nx₀) (hh : A.handled = none) (F : Fr h₀ L s.heap m) (N : News h₀ L s.heap nx₀) (hcell : ∀ y ∈ scope.names, y.2 ≠ .cell) (hkind : scope.kind = .function) (hga : ∀ g', gs[0]? = some g' → g'.is_async = 0) (p0 : P 0 [] nx₀)
    (turn : ∀ (i : Nat) (v : Value) (ys : List Value) (tl : Led) (h : Heap) (tk : Nat) (I : Addr) (oI oC : Obj) (C D : Addr) (mC : Str → Option Value), vs[i]? = some v → P i ys (nx₀ ++ tl) → Above nx₀ tl → Below3 nx₀ I C D → Off3 I C D (nx₀ ++ tl) → Trip I C D → Fr h₀ L h m → NsObj oC mC → News h₀ L h ((I, oI) :: (C, oC) :: (D, lst ys) :: (nx₀ ++ tl)) →
      CTurn prog w A h₀ L m (compEnvC scope cl C env) elt target ifs (⟨target, iter, ifs, 0⟩ :: gs) scope pos 0 I oI C D (CJ nx₀ P (i + 1)) v { s with heap := h, toks := tk })
    (done : ∀ (D : Addr) (ys : List Value) (tl : Led) (h : Heap) (tk : Nat), P vs.length ys (nx₀ ++ tl) → Above nx₀ tl → (∀ q ∈ nx₀, q.1 < D) → K D ys (nx₀ ++ tl) { s with heap := h, toks := tk }) :
    CSrc prog w A h₀ L m env elt target iter ifs gs scope pos cl E K (.ref l) s := by
  intro RR hR
  have hol := (N _ hm).1
  have hls : s.heap.IsList l vs.toArray := ⟨_, hol, rfl, k, rfl⟩
  have hlt : l < s.heap.objs.size := Heap.lt_size hol
  refine wpAny_pyIter_list hls ?_
  have W := Walks.list (prog := prog) (w := w) hh s.heap.objs.size l (Nat.ne_of_lt hlt) vs.toArray
  have hlen : vs.toArray.size = vs.length := by simp
  rw [hlen] at W
  have up : ∀ b o, s.heap.get? b = some o → (s.heap.push { cls := .type "list_iterator", data := .fields #[.ref l, .int 0 0] }).get? b = some o := fun b o e => Heap.get?_push_of_some _ e
  refine comp_core (cn := "list_iterator") (S := fun nw => (l, listOf (List.toArray vs) k) ∈ nw) P hga W (fun i h st => by obtain ⟨o, e, r⟩ := st.1; exact ⟨o, e, r.1⟩) (by decide) list_st' hcell hkind ⟨⟨_, Heap.get?_push_size _ rfl, rfl, rfl⟩, hls.push _⟩ (fun b hb => ?_)
    (F.keeps up) (N.grown up) (Nat.ne_of_lt F.ns.lt) (next_is_new F) (fun p hp => Heap.lt_size (N p hp).1) (fun tl => List.mem_append.mpr (.inl hm)) p0 ?_ ?_
  · show b < (s.heap.push _).objs.size
    rw [Heap.size_push]
    rcases List.mem_cons.mp hb with rfl | hb
    · exact Nat.lt_succ_self _
    · rw [List.mem_singleton.mp hb]; exact Nat.lt_succ_of_lt hlt
  · intro i v ys tl h tk oI oC C D mC hi hP hp ha b3 off tr F' hC N'
    exact turn i v ys tl h tk _ oI oC C D mC (by simpa using hP) hp ha b3 off tr F' hC N'
  · intro D C h tk m' ys tl oC hp ha hD F' N' hC e e0 n1 n2 o1
    exact hR D C _ m' ys _ oC ⟨h, tk, rfl⟩ F' N' hC e e0 n1 n2 o1 (done D ys tl h tk hp ha hD)

theorem CSrc.range {elt target iter : Expr} {ifs : List Expr} {gs : List Comprehension} {scope : Scope} {pos : Pos} {cl : List (Str × Addr)} {r : Addr} {a b : Int} {t u v : Tok} {n : Nat} {nx₀ : Led} {E : Value → Shared → Prop} {K : Addr → List Value → Led → Shared → Prop} (P : Nat → List Value → Led → Prop)
    (hr : IsRange s.heap r a b 1 t u v) (hsm : Builtin.Range.small a b 1 = true) (hn : Builtin.Range.rangeSize a b 1 = ((n : Nat) : Int)) (hh : A.handled = none) (F : Fr h₀ L s.heap m) (N : News h₀ L s.heap nx₀) (hcell : ∀ y ∈ scope.names, y.2 ≠ .cell) (hkind : scope.kind = .function) (hga : ∀ g', gs[0]? = some g' → g'.is_async = 0) (p0 : P 0 [] nx₀)
    (turn : ∀ (i : Nat) (tv : Tok) (ys : List Value) (tl : Led) (h : Heap) (tk : Nat) (I : Addr) (oI oC : Obj) (C D : Addr) (mC : Str → Option Value), i < n → P i ys (nx₀ ++ tl) → Above nx₀ tl → Below3 nx₀ I C D → Off3 I C D (nx₀ ++ tl) → Trip I C D → Fr h₀ L h m → NsObj oC mC → News h₀ L h ((I, oI) :: (C, oC) :: (D, lst ys) :: (nx₀ ++ tl)) →
      CTurn prog w A h₀ L m (compEnvC scope cl C env) elt target ifs (⟨target, iter, ifs, 0⟩ :: gs) scope pos 0 I oI C D (CJ nx₀ P (i + 1)) (.int (a + (i : Int)) tv) { s with heap := h, toks := tk })
    (done : ∀ (D : Addr) (ys : List Value) (tl : Led) (h : Heap) (tk : Nat), P n ys (nx₀ ++ tl) → Above nx₀ tl → (∀ q ∈ nx₀, q.1 < D) → K D ys (nx₀ ++ tl) { s with heap := h, toks := tk }) :
    CSrc prog w A h₀ L m env elt target iter ifs gs scope pos cl E K (.ref r) s := by
  intro RR hR
  refine wpAny_pyIter_range hr hsm ?_
  refine comp_core (cn := "range_iterator") (S := fun _ => True) P hga (range_walks hh a n) (fun i h st => ⟨_, st, rfl⟩) (by decide) range_st hcell hkind (by show IsRangeIter _ _ _ _ _; rw [hn]; simpa using Heap.get?_push_size _ rfl) (fun b hb => ?_)
    (F.keeps fun _ _ e => Heap.get?_push_of_some _ e) (N.grown fun _ _ e => Heap.get?_push_of_some _ e) (Nat.ne_of_lt F.ns.lt) (next_is_new F) (fun p hp => Heap.lt_size (N p hp).1) (fun tl => trivial) p0 ?_ ?_
  · rw [List.mem_singleton.mp hb]
    show s.heap.objs.size < (s.heap.push _).objs.size
    rw [Heap.size_push]; exact Nat.lt_succ_self _
  · rintro i v ys tl h tk oI oC C D mC hi ⟨tv, rfl⟩ hp ha b3 off tr F' hC N'
    exact turn i tv ys tl h tk _ oI oC C D mC hi hp ha b3 off tr F' hC N'
  · intro D C h tk m' ys tl oC hp ha hD F' N' hC e e0 n1 n2 o1
    exact hR D C _ m' ys _ oC ⟨h, tk, rfl⟩ F' N' hC e e0 n1 n2 o1 (done D ys tl h tk hp ha hD)

/-- the end of a comprehension that is evaluated -/
noncomputable def KE (h₀ : Heap) (L : Addr) (m : Str → Option Value) (Q : Value → Shared → Prop) (D : Addr) (ys : List Value) (nx : Led) (s₁ : Shared) : Prop :=
  ∀ h, Fr h₀ L h m → News h₀ L h ((D, lst ys) :: nx) → Q (.ref D) { s₁ with heap := h }
/-- the end of one that is stored -/
noncomputable def KA (h₀ : Heap) (L : Addr) (m : Str → Option Value) (y : Str) (Q : Flow → Shared → Prop) (D : Addr) (ys : List Value) (nx : Led) (s₁ : Shared) : Prop :=
  ∀ h tk, Fr h₀ L h (fun z => if z = y then some (.ref D) else m z) → News h₀ L h ((D, lst ys) :: nx) → Q .next { s₁ with heap := h, toks := tk }

theorem comp_eval {elt target iter : Expr} {ifs : List Expr} {gs : List Comprehension} {scope : Scope} {pos : Pos} {cl : List (Str × Addr)} {E : Value → Shared → Prop} {Q : Value → Shared → Prop} (_F : Fr h₀ L s.heap m)
    (hclos : closureFor scope env = pure cl) (hkind : scope.kind = .function) (hnames : ∀ y ∈ scope.names, y.2 = .local → scope.names.lookup y.1 = some .local)
    (h : wpAny (model prog w) A (eval iter env) (CSrc prog w A h₀ L m env elt target iter ifs gs scope pos cl E (KE h₀ L m Q)) E s)
    (hs : ∀ x, foldedSetIterable iter env x = pure x := by intro _; rfl) :
    wpAny (model prog w) A (eval (.ListComp elt (⟨target, iter, ifs, 0⟩ :: gs) scope pos) env) Q E s := by
  rw [eval_ListComp]
  refine wpAny_comprehension_free (use := none) rfl hs hclos hkind hnames (wpAny_mono h (fun xv s₁ h₁ => ?_) fun _ _ e => e)
  refine h₁ _ ?_
  rintro D C s' m' ys nx oC ⟨h', tk, rfl⟩ F' N' hC e e0 n1 n2 off k
  refine ⟨m', hC.ns e, fun h'' hs'' => ?_⟩
  exact k h'' (F'.change hs'' n1 e0) fun p hp => by
    refine ⟨hs''.extBut _ _ ?_ (N' p hp).1, (N' p hp).2⟩
    rcases List.mem_cons.mp hp with rfl | hp
    · exact Ne.symm n2
    · exact (off p hp).1

theorem comp_store {elt target iter : Expr} {y : Str} {py : Pos} {ifs : List Expr} {gs : List Comprehension} {scope : Scope} {pos spos : Pos} {cl : List (Str × Addr)} {E : Value → Shared → Prop} {Q : Flow → Shared → Prop} (_F : Fr h₀ L s.heap m) (hLe : env.locals = L)
    (hsw : swapsWith (.ListComp elt (⟨target, iter, ifs, 0⟩ :: gs) scope pos) (some (.Name y py)) spos.line env = pure true)
    (hclos : closureFor scope env = pure cl) (hkind : scope.kind = .function) (hnames : ∀ y ∈ scope.names, y.2 = .local → scope.names.lookup y.1 = some .local)
    (hy : env.kindOf y = some .local) (hp : (env.scope.kind == .class || (env.scope.kind == .module && env.locals != env.globals)) = false)
    (h : wpAny (model prog w) A (eval iter env) (CSrc prog w A h₀ L m env elt target iter ifs gs scope pos cl E (KA h₀ L m y Q)) E s)
    (hs : ∀ x, foldedSetIterable iter env x = pure x := by intro _; rfl) :
    wpAny (model prog w) A (exec (.Assign [.Name y py] (.ListComp elt (⟨target, iter, ifs, 0⟩ :: gs) scope pos) spos) env) Q E s := by
  subst hLe
  rw [exec_Assign_Name_used _ _ _ _ hsw]
  refine wpAny_bind (wpAny_standAt (wpAny_bind ?_))
  show wpAny _ A (do let _ ← comprehension (.ListComp elt (⟨target, iter, ifs, 0⟩ :: gs) scope pos) scope env _ (newList []) false (eval iter env) (some (assign (.Name y py) env))) _ _ s
  refine wpAny_bind (wpAny_mono (wpAny_comprehension_free (use := some (assign (.Name y py) env)) (Q := fun _ s' => Q .next s') rfl hs hclos hkind hnames
    (wpAny_mono h (fun xv s₁ h₁ => ?_) fun _ _ e => e)) (fun _ s' hq => wpAny_pure (wpAny_pure hq)) fun _ _ e => e)
  refine h₁ _ ?_
  rintro D C s' m' ys nx oC ⟨h', tk, rfl⟩ F' N' hC e e0 n1 n2 off k
  show wpAny _ A (assign (.Name y py) env (.ref D)) _ _ _
  refine wpAny_assign_Name (wpAny_storeName_local hy F'.ns (fun h₂ hn₂ hs₂ => ?_) hp)
  have hL₀ : h₀.get? env.locals = none := Heap.get?_none_of_le F'.above
  have F₂ : Fr h₀ env.locals h₂ (fun z => if z = y then some (.ref D) else m z) := ⟨hn₂, fun b o e => hs₂.extBut b o (fun q => by rw [q, hL₀] at e; cases e) (F'.keep b o e), F'.above⟩
  refine ⟨m', (hC.ns e).sameBut hs₂ n1, fun h'' hs'' => k h'' _ (F₂.change hs'' n1 e0) fun p hp => ?_⟩
  have z : h₂.get? p.1 = some p.2 := hs₂.extBut _ _ (N' p hp).2.1 (N' p hp).1
  refine ⟨hs''.extBut _ _ ?_ z, (N' p hp).2⟩
  rcases List.mem_cons.mp hp with rfl | hp
  · exact Ne.symm n2
  · exact (off p hp).1
end
end Mine

end
section
open PySem PySem.W PyProof.Rows PySem.Spec PySem.Calls
open LCg (NsObj ns_obj lst lst_snoc Off3)
set_option maxRecDepth 100000
namespace Mine
section
variable {prog : Program} {w : World} {A : Around} {s s₁ : Shared} {h₀ : Heap} {L : Addr} {m : Str → Option Value} {env : Env} {E : Value → Shared → Prop} {scope : Scope} {cl : List (Str × Addr)} {I C D : Addr} {oI oC : Obj} {ys : List Value} {nx nx₀ tl tl' led : Led} {mC : Str → Option Value}

theorem assign_comp {x : Str} {px : Pos} {v : Value} {Q : Unit → Shared → Prop} (hkind : scope.kind = .function) (hx : scope.names.lookup x = some .local) (tr : Trip I C D) (off : Off3 I C D nx) (F : Fr h₀ L s.heap m) (hC : NsObj oC mC) (N : News h₀ L s.heap ((I, oI) :: (C, oC) :: (D, lst ys) :: nx))
    (h : ∀ h' oC' mC', Fr h₀ L h' m → NsObj oC' mC' → mC' x = some v → (∀ z, z ≠ x → mC' z = mC z) → News h₀ L h' ((I, oI) :: (C, oC') :: (D, lst ys) :: nx) → Q () { s with heap := h', toks := s.toks + 1 }) :
    wpAny (model prog w) A (assign (.Name x px) (compEnvC scope cl C env) v) Q E s := by
  have zC := N (C, oC) (.tail _ (.head _))
  refine wpAny_assign_Name (wpAny_storeName_local (lookup_relabel_local hx) (hC.ns zC.1) (fun h' hn hs => ?_) (by simp [compEnvC, relabel, hkind]))
  obtain ⟨oC', heC, hC'⟩ := ns_obj hn
  refine h h' oC' _ (F.change hs zC.2.1 zC.2.2) hC' (by simp) (fun z hz => by simp [hz]) fun p hp => ?_
  rcases List.mem_cons.mp hp with rfl | hp
  · have z := N (I, oI) (.head _)
    exact ⟨hs.extBut _ _ tr.1 z.1, z.2⟩
  rcases List.mem_cons.mp hp with rfl | hp
  · exact ⟨heC, zC.2⟩
  rcases List.mem_cons.mp hp with rfl | hp
  · have z := N (D, lst ys) (.tail _ (.tail _ (.head _)))
    exact ⟨hs.extBut _ _ (Ne.symm tr.2.2) z.1, z.2⟩
  · have z := N p (.tail _ (.tail _ (.tail _ hp)))
    exact ⟨hs.extBut _ _ (off.mem p hp).2.1 z.1, z.2⟩

theorem CTurn.map {elt iter : Expr} {x : Str} {px pos : Pos} {v : Value} {J : List Value → Led → Prop} (hkind : scope.kind = .function) (hx : scope.names.lookup x = some .local) (tr : Trip I C D) (off : Off3 I C D nx) (F : Fr h₀ L s.heap m) (hC : NsObj oC mC) (N : News h₀ L s.heap ((I, oI) :: (C, oC) :: (D, lst ys) :: nx))
    (h : ∀ h' oC' mC' tk (E' : Value → Shared → Prop), Fr h₀ L h' m → NsObj oC' mC' → mC' x = some v → News h₀ L h' ((I, oI) :: (C, oC') :: (D, lst ys) :: nx) → wpAny (model prog w) A (eval elt (compEnvC scope cl C env)) (CEndY h₀ L m I oI C D J s) E' { s with heap := h', toks := tk }) :
    CTurn prog w A h₀ L m (compEnvC scope cl C env) elt (.Name x px) [] [⟨.Name x px, iter, [], 0⟩] scope pos 0 I oI C D J v s := by
  intro E'
  refine assign_comp hkind hx tr off F hC N fun h' oC' mC' F' hC' hx' _ N' => wpAny_tests_nil ?_
  rw [if_pos rfl]
  exact emit_last rfl tr (h h' oC' mC' _ E' F' hC' hx' N')
theorem CTurn.filter {elt iter ct : Expr} {x : Str} {px pos : Pos} {v : Value} {J : List Value → Led → Prop} (hkind : scope.kind = .function) (hx : scope.names.lookup x = some .local) (tr : Trip I C D) (off : Off3 I C D nx) (F : Fr h₀ L s.heap m) (hC : NsObj oC mC) (N : News h₀ L s.heap ((I, oI) :: (C, oC) :: (D, lst ys) :: nx))
    (h : ∀ h' oC' mC' tk (E' : Value → Shared → Prop), Fr h₀ L h' m → NsObj oC' mC' → mC' x = some v → News h₀ L h' ((I, oI) :: (C, oC') :: (D, lst ys) :: nx) →
      wpAny (model prog w) A (isTrue ct (compEnvC scope cl C env) (eval ct (compEnvC scope cl C env))) (fun ok s₃ => if ok = true then wpAny (model prog w) A (eval elt (compEnvC scope cl C env)) (CEndY h₀ L m I oI C D J s) E' s₃ else CEnd h₀ L m I oI C D J s s₃) E' { s with heap := h', toks := tk }) :
    CTurn prog w A h₀ L m (compEnvC scope cl C env) elt (.Name x px) [ct] [⟨.Name x px, iter, [ct], 0⟩] scope pos 0 I oI C D J v s := by
  intro E'
  refine assign_comp hkind hx tr off F hC N fun h' oC' mC' F' hC' hx' _ N' => wpAny_tests_one (wpAny_mono (h h' oC' mC' _ E' F' hC' hx' N') (fun ok s₃ h₃ => ?_) fun _ _ e => e)
  cases ok with
  | false => exact h₃
  | true => exact emit_last rfl tr h₃

theorem off3_app (off : Off3 I C D (nx₀ ++ tl)) (h : ∀ p ∈ tl', p.1 ≠ I ∧ p.1 ≠ C ∧ p.1 ≠ D) : Off3 I C D (nx₀ ++ (tl ++ tl')) := Off3.of fun p hp => by
  rw [← List.append_assoc] at hp
  rcases List.mem_append.mp hp with hp | hp
  · exact off.mem p hp
  · exact h p hp
theorem CEndY.mk {h' : Heap} {tk : Nat} {m' : Str → Option Value} {oC' : Obj} {P : Nat → List Value → Led → Prop} {i : Nat} {y : Value} (F : Fr h₀ L h' m) (hC : NsObj oC' m') (N : News h₀ L h' led) (sub : ∀ p ∈ (I, oI) :: (C, oC') :: (D, lst ys) :: (nx₀ ++ (tl ++ tl')), p ∈ led) (off : Off3 I C D (nx₀ ++ tl)) (o1 : Above nx₀ tl)
    (o2 : ∀ q ∈ (I, oI) :: (C, oC') :: (D, lst ys) :: nx₀, ∀ p ∈ tl', q.1 < p.1) (hl : ys.length ≤ sizeLine) (hp : P (i + 1) (ys ++ [y]) (nx₀ ++ (tl ++ tl'))) : CEndY h₀ L m I oI C D (CJ nx₀ P (i + 1)) s₁ y { s₁ with heap := h', toks := tk } :=
  ⟨h', tk, ys, nx₀ ++ (tl ++ tl'), oC', m', rfl, F, hC, fun p hp => N p (sub p hp), off3_app off fun p hp => ⟨Nat.ne_of_gt (o2 _ (.head _) p hp), Nat.ne_of_gt (o2 _ (.tail _ (.head _)) p hp), Nat.ne_of_gt (o2 _ (.tail _ (.tail _ (.head _))) p hp)⟩, hl,
    tl ++ tl', rfl, ord_app o1 (ord_sub o2 fun _ h => .tail _ (.tail _ (.tail _ h))), hp⟩
theorem CEnd.mk {h' : Heap} {tk : Nat} {m' : Str → Option Value} {oC' : Obj} {P : Nat → List Value → Led → Prop} {i : Nat} (F : Fr h₀ L h' m) (hC : NsObj oC' m') (N : News h₀ L h' led) (sub : ∀ p ∈ (I, oI) :: (C, oC') :: (D, lst ys) :: (nx₀ ++ (tl ++ tl')), p ∈ led) (off : Off3 I C D (nx₀ ++ tl)) (o1 : Above nx₀ tl)
    (o2 : ∀ q ∈ (I, oI) :: (C, oC') :: (D, lst ys) :: nx₀, ∀ p ∈ tl', q.1 < p.1) (hp : P (i + 1) ys (nx₀ ++ (tl ++ tl'))) : CEnd h₀ L m I oI C D (CJ nx₀ P (i + 1)) s₁ { s₁ with heap := h', toks := tk } :=
  ⟨h', tk, ys, nx₀ ++ (tl ++ tl'), oC', m', rfl, F, hC, fun p hp => N p (sub p hp), off3_app off fun p hp => ⟨Nat.ne_of_gt (o2 _ (.head _) p hp), Nat.ne_of_gt (o2 _ (.tail _ (.head _)) p hp), Nat.ne_of_gt (o2 _ (.tail _ (.tail _ (.head _))) p hp)⟩,
    tl ++ tl', rfl, ord_app o1 (ord_sub o2 fun _ h => .tail _ (.tail _ (.tail _ h))), hp⟩
end
end Mine

end
section
open PySem PySem.W PyProof.Rows PySem.Spec PySem.Calls
open LCg (NsObj ns_obj lst lst_snoc Off3)
set_option maxRecDepth 100000
namespace Mine
section
variable {prog : Program} {w : World} {A : Around} {s s₁ : Shared} {h₀ : Heap} {L : Addr} {m : Str → Option Value} {env cenv : Env} {E : Value → Shared → Prop}

theorem compStart_at {elt target iter : Expr} {ifs : List Expr} {gens : List Comprehension} {scope : Scope} {pos : Pos} {d : Nat} {it acc : Value} {R : Result → Shared → Prop} (hg : gens[d]? = some ⟨target, iter, ifs, 0⟩)
    (h0 : codeAny (model prog w) A (.compLoop (.ListComp elt gens scope pos) d it acc env) R s)
    (h : wpAny (model prog w) A (pyIter it) (fun it' s' => codeAny (model prog w) A (.compLoop (.ListComp elt gens scope pos) d it' acc env) R s')
      (notedBy (model prog w) A env fun x s' => R (.error x) s') s) :
    codeAny (model prog w) A (.compStart (.ListComp elt gens scope pos) d it acc env) R s := by
  refine codeAny_of_tree ?_
  show wpAny _ _ ((compStart (.ListComp elt gens scope pos) d it acc env).onRaise (fun x => do noteFrame x env; standAt theWindowsPlace)) _ _ s
  refine wpAny_notedAt ?_
  have hc : (clausesOf (.ListComp elt gens scope pos))[d]? = some ⟨target, iter, ifs, 0⟩ := hg
  unfold compStart
  simp only [hc, Option.elim_some, bne_self_eq_false, Bool.false_eq_true, if_false]
  refine wpAny_bind (wpAny_askSetting (wpAny_ite ?_))
  split
  · first
      | exact wpAny_bind (wpAny_pure (wpAny_pure (And.intro rfl h0)))
      | exact wpAny_pure (And.intro rfl h0)
  · first
      | exact wpAny_bind (wpAny_rule (wpAny_bind (wpAny_standAt (wpAny_bind (wpAny_mono h (fun it' s' h' => wpAny_pure (And.intro rfl h')) fun _ _ x => x)))))
      | (refine wpAny_bind (wpAny_rule ?_); exact wpAny_bind (wpAny_standAt (wpAny_bind (wpAny_mono h (fun it' s' h' => wpAny_pure (And.intro rfl h')) fun _ _ x => x))))

/-- the source of an inner generator, a list of the ledger -/
inductive NSrc (prog : Program) (w : World) (A : Around) (h₀ : Heap) (L : Addr) (m : Str → Option Value) (cenv : Env) (elt target : Expr) (ifs : List Expr) (gens : List Comprehension) (scope : Scope) (pos : Pos) (d : Nat) (I : Addr) (oI : Obj) (C D : Addr) (J : List Value → Led → Prop) (s₁ : Shared) (xv : Value) (s₂ : Shared) : Prop
  | of9 : ∀ l vs k ys nx oC mC, ∀ J' : Nat → List Value → Led → Prop, (xv = .ref l) → (A.handled = none) → (∃ hh tk, s₂ = { s₁ with heap := hh, toks := tk }) → ((l, listOf (List.toArray vs) k) ∈ nx) → (Fr h₀ L s₂.heap m) → (NsObj oC mC) → (News h₀ L s₂.heap ((I, oI) :: (C, oC) :: (D, lst ys) :: nx)) → (Trip I C D) → (Off3 I C D nx) → (J' 0 ys nx) → (∀ j ys nx, J' j ys nx → (l, listOf (List.toArray vs) k) ∈ nx) → (∀ j v ys nx h tk I' oI' oC mC, vs[j]? = some v → J' j ys nx → I < I' → Off3 I' C D ((I, oI) :: nx) → Off3 I C D nx → Trip I' C D → Fr h₀ L h m → NsObj oC mC → News h₀ L h ((I', oI') :: (C, oC) :: (D, lst ys) :: (I, oI) :: nx) → CTurn prog w A h₀ L m cenv elt target ifs gens scope pos (d + 1) I' oI' C D (fun ys nx' => ∃ nx, nx' = (I, oI) :: nx ∧ Off3 I C D nx ∧ J' (j + 1) ys nx) v { s₁ with heap := h, toks := tk }) → (∀ ys nx, J' vs.length ys nx → J ys nx) → NSrc prog w A h₀ L m cenv elt target ifs gens scope pos d I oI C D J s₁ xv s₂

theorem emit_next {elt : Expr} {gens : List Comprehension} {scope : Scope} {pos : Pos} {d : Nat} {I C D : Addr} {oI : Obj} {J : List Value → Led → Prop} {target iter : Expr} {ifs : List Expr} (hg : gens[d + 1]? = some ⟨target, iter, ifs, 0⟩) (ha : ∀ g', gens[d + 1 + 1]? = some g' → g'.is_async = 0)
    (h : wpAny (model prog w) A (eval iter cenv) (NSrc prog w A h₀ L m cenv elt target ifs gens scope pos d I oI C D J s₁) E s)
    (hs : ∀ x, foldedSetIterable iter cenv x = pure x) :
    wpAny (model prog w) A (emitAt elt gens scope pos d (.ref D) cenv) (fun _ s₂ => CEnd h₀ L m I oI C D J s₁ s₂) E s := by
  unfold emitAt
  rw [hg]
  refine wpAny_bind (wpAny_mono h (fun xv s₂ h₂ => wpAny_bind (wpAny_standAt (wpAny_bind (wpAny_of_eq (hs xv) ?_)))) fun _ _ e => e)
  obtain ⟨l, vs, k, ys, nx, oC, mC, J', rfl, hh, ⟨hp2, tk2, rfl⟩, hm, F, hC, N, tr, off, j0, hS, turn, done⟩ := h₂
  have zI := N (I, oI) (.head _)
  have zC := N (C, oC) (.tail _ (.head _))
  have zD := N (D, lst ys) (.tail _ (.tail _ (.head _)))
  have hol := (N _ (.tail _ (.tail _ (.tail _ hm)))).1
  have hls : hp2.IsList l vs.toArray := ⟨_, hol, rfl, k, rfl⟩
  have hlt : l < hp2.objs.size := Heap.lt_size hol
  refine wpAny_bind (wpAny_holding (wpAny_pyIter_list hls ?_))
  have W := Walks.list (prog := prog) (w := w) hh hp2.objs.size l (Nat.ne_of_lt hlt) vs.toArray
  have hlen : vs.toArray.size = vs.length := by simp
  rw [hlen] at W
  have up : ∀ b o, hp2.get? b = some o → (hp2.push { cls := .type "list_iterator", data := .fields #[.ref l, .int 0 0] }).get? b = some o := fun b o e => Heap.get?_push_of_some _ e
  have trI : Trip hp2.objs.size C D := ⟨Nat.ne_of_gt (Heap.lt_size zC.1), Nat.ne_of_gt (Heap.lt_size zD.1), tr.2.2⟩
  have offI : Off3 hp2.objs.size C D ((I, oI) :: nx) := Off3.of fun p hp => by
    rcases List.mem_cons.mp hp with rfl | hp
    · exact ⟨Nat.ne_of_lt (Heap.lt_size zI.1), tr.1, tr.2.1⟩
    · exact ⟨Nat.ne_of_lt (Heap.lt_size (N p (.tail _ (.tail _ (.tail _ hp)))).1), (off.mem p hp).2⟩
  have hIlt : I < hp2.objs.size := Heap.lt_size zI.1
  have st0 : (hp2.push { cls := .type "list_iterator", data := .fields #[.ref l, .int 0 0] }).IsListIter hp2.objs.size l 0 ∧ (hp2.push { cls := .type "list_iterator", data := .fields #[.ref l, .int 0 0] }).IsList l vs.toArray := ⟨⟨_, Heap.get?_push_size _ rfl, rfl, rfl⟩, hls.push _⟩
  refine wpAny_bind (wpAny_runOwn ?_)
  have loop : codeAny (model prog w) A (.compLoop (.ListComp elt gens scope pos) (d + 1) (.ref hp2.objs.size) (.ref D) cenv)
      (fun r s' => match r with | .ok f => wpAny (model prog w) A (pure ()) (fun _ s₂ => CEnd h₀ L m I oI C D J s₁ s₂) E s' | .error e => cameBackBy (model prog w) A cenv E e s')
      { ({ s₁ with heap := hp2, toks := tk2 } : Shared) with heap := hp2.push { cls := .type "list_iterator", data := .fields #[.ref l, .int 0 0] } } := by
    refine comp_level (S := fun nw => (l, listOf (List.toArray vs) k) ∈ nw) (cn := "list_iterator") (C := C) (oC₀ := oC) (m₀ := mC) (ys₀ := ys) (nx₀ := (I, oI) :: nx) hg ha W (fun i h st => by obtain ⟨o, e, r⟩ := st.1; exact ⟨o, e, r.1⟩) (by decide) list_st' st0 (F.keeps up) hC ?_ (Nat.ne_of_lt F.ns.lt) (next_is_new F) offI trI
      (fun j ys nx' => ∃ nx, nx' = (I, oI) :: nx ∧ Off3 I C D nx ∧ J' j ys nx) ⟨nx, rfl, off, j0⟩ ?_ ?_ ?_
    · intro p hp
      rcases List.mem_cons.mp hp with rfl | hp
      · exact ⟨up _ _ zC.1, zC.2⟩
      rcases List.mem_cons.mp hp with rfl | hp
      · exact ⟨up _ _ zD.1, zD.2⟩
      rcases List.mem_cons.mp hp with rfl | hp
      · exact ⟨up _ _ zI.1, zI.2⟩
      · have z := N p (.tail _ (.tail _ (.tail _ hp))); exact ⟨up _ _ z.1, z.2⟩
    · rintro j ys nx' ⟨nx, rfl, _, hj⟩
      exact .tail _ (hS j ys nx hj)
    · rintro j v ys nx' h tk oI' oC mC hi hP ⟨nx, rfl, off', hj⟩ offn F' hC' N'
      exact turn j v ys nx h tk _ oI' oC mC (by simpa using hP) hj hIlt offn off' trI F' hC' N'
    · rintro ys nx' h tk oC mC ⟨nx, rfl, off', hj⟩ offn F' hC' N'
      refine wpAny_pure ⟨h, tk, ys, nx, oC, mC, rfl, F', hC', fun p hp => N' p ?_, off', done ys nx hj⟩
      simp only [List.mem_cons] at hp ⊢
      rcases hp with h | h | h | h <;> simp [h]
  exact compStart_at hg loop (W.self 0 _ _ _ st0 loop)
end
end Mine
namespace Mine
section
variable {prog : Program} {w : World} {A : Around} {s s₁ : Shared} {h₀ : Heap} {L : Addr} {m : Str → Option Value} {env : Env} {E : Value → Shared → Prop} {scope : Scope} {cl : List (Str × Addr)} {I C D : Addr} {oI oC : Obj} {ys : List Value} {nx : Led} {mC : Str → Option Value}
theorem assign_comp2 {a b : Str} {pa pb tp : Pos} {kk : Nat} {T : Addr} {x y : Value} {n : Nat} {Q : Unit → Shared → Prop} (hh : A.handled = none) (hm : (T, tupO [x, y] n) ∈ nx) (hkind : scope.kind = .function) (ha : scope.names.lookup a = some .local) (hb : scope.names.lookup b = some .local) (hab : a ≠ b)
    (tr : Trip I C D) (off : Off3 I C D nx) (F : Fr h₀ L s.heap m) (hC : NsObj oC mC) (N : News h₀ L s.heap ((I, oI) :: (C, oC) :: (D, lst ys) :: nx))
    (h : ∀ h' oC' mC' tk, Fr h₀ L h' m → NsObj oC' mC' → mC' a = some x → mC' b = some y → (∀ z, z ≠ a → z ≠ b → mC' z = mC z) → News h₀ L h' ((I, oI) :: (C, oC') :: (D, lst ys) :: nx) → Q () { s with heap := h', toks := tk }) :
    wpAny (model prog w) A (assign (.Tuple [.Name a pa, .Name b pb] kk tp) (compEnvC scope cl C env) (.ref T)) Q E s := by
  have zC := N (C, oC) (.tail _ (.head _))
  have zT := N (T, tupO [x, y] n) (.tail _ (.tail _ (.tail _ hm)))
  refine kcp_assign hh ⟨_, zT.1, rfl, n, rfl⟩ (lookup_relabel_local ha) (lookup_relabel_local hb) (by simp [compEnvC, relabel, hkind]) (hC.ns zC.1) fun h' tk hn hk => ?_
  obtain ⟨oC', heC, hC'⟩ := ns_obj hn
  have hL : L ≠ C := Ne.symm zC.2.1
  have F' : Fr h₀ L h' m := ⟨F.ns.at' fun o e => hk L o hL e, fun b o e => hk b o (fun q => by have q2 : b = C := q; subst q2; have := zC.2.2; dsimp only at this; rw [e] at this; cases this) (F.keep b o e), F.above⟩
  refine h h' oC' _ tk F' hC' (by simp [hab]) (by simp) (fun z h1 h2 => by simp [h1, h2]) fun p hp => ?_
  rcases List.mem_cons.mp hp with rfl | hp
  · have z := N (I, oI) (.head _)
    exact ⟨hk _ _ tr.1 z.1, z.2⟩
  rcases List.mem_cons.mp hp with rfl | hp
  · exact ⟨heC, zC.2⟩
  rcases List.mem_cons.mp hp with rfl | hp
  · have z := N (D, lst ys) (.tail _ (.tail _ (.head _)))
    exact ⟨hk _ _ (Ne.symm tr.2.2) z.1, z.2⟩
  · have z := N p (.tail _ (.tail _ (.tail _ hp)))
    exact ⟨hk _ _ (off.mem p hp).2.1 z.1, z.2⟩
end
end Mine
namespace Mine
section
variable {prog : Program} {w : World} {A : Around} {s s₁ : Shared} {h₀ : Heap} {L : Addr} {m : Str → Option Value} {env cenv : Env} {E : Value → Shared → Prop} {scope : Scope} {cl : List (Str × Addr)} {I C D : Addr} {oI oC : Obj} {ys : List Value} {nx : Led} {mC : Str → Option Value}
theorem CTurn.mapN {elt : Expr} {x : Str} {px pos : Pos} {gens : List Comprehension} {d : Nat} {v : Value} {J : List Value → Led → Prop} (hg : gens[d + 1]? = none) (hkind : scope.kind = .function) (hx : scope.names.lookup x = some .local) (tr : Trip I C D) (off : Off3 I C D nx) (F : Fr h₀ L s.heap m) (hC : NsObj oC mC) (N : News h₀ L s.heap ((I, oI) :: (C, oC) :: (D, lst ys) :: nx))
    (h : ∀ h' oC' mC' tk (E' : Value → Shared → Prop), Fr h₀ L h' m → NsObj oC' mC' → mC' x = some v → (∀ z, z ≠ x → mC' z = mC z) → News h₀ L h' ((I, oI) :: (C, oC') :: (D, lst ys) :: nx) → wpAny (model prog w) A (eval elt (compEnvC scope cl C env)) (CEndY h₀ L m I oI C D J s) E' { s with heap := h', toks := tk }) :
    CTurn prog w A h₀ L m (compEnvC scope cl C env) elt (.Name x px) [] gens scope pos d I oI C D J v s := by
  intro E'
  refine assign_comp hkind hx tr off F hC N fun h' oC' mC' F' hC' hx' hr N' => wpAny_tests_nil ?_
  rw [if_pos rfl]
  exact emit_last hg tr (h h' oC' mC' _ E' F' hC' hx' hr N')
theorem NSrc.mk {elt target : Expr} {ifs : List Expr} {gens : List Comprehension} {pos : Pos} {d : Nat} {J : List Value → Led → Prop} {l : Addr} {vs : List Value} {k : Nat} {led nx : Led} (J' : Nat → List Value → Led → Prop) (F : Fr h₀ L s.heap m) (N : News h₀ L s.heap led) (hh : A.handled = none) (he : ∃ hh tk, s = { s₁ with heap := hh, toks := tk })
    (hsub : ∀ p ∈ (I, oI) :: (C, oC) :: (D, lst ys) :: nx, p ∈ led) (hm : (l, listOf (List.toArray vs) k) ∈ nx) (hC : NsObj oC mC) (tr : Trip I C D) (off : Off3 I C D nx) (j0 : J' 0 ys nx) (hS : ∀ j ys nx, J' j ys nx → (l, listOf (List.toArray vs) k) ∈ nx)
    (turn : ∀ j v ys nx h tk I' oI' oC mC, vs[j]? = some v → J' j ys nx → I < I' → Off3 I' C D ((I, oI) :: nx) → Off3 I C D nx → Trip I' C D → Fr h₀ L h m → NsObj oC mC → News h₀ L h ((I', oI') :: (C, oC) :: (D, lst ys) :: (I, oI) :: nx) →
      CTurn prog w A h₀ L m cenv elt target ifs gens scope pos (d + 1) I' oI' C D (fun ys nx' => ∃ nx, nx' = (I, oI) :: nx ∧ Off3 I C D nx ∧ J' (j + 1) ys nx) v { s₁ with heap := h, toks := tk })
    (done : ∀ ys nx, J' vs.length ys nx → J ys nx) : NSrc prog w A h₀ L m cenv elt target ifs gens scope pos d I oI C D J s₁ (.ref l) s :=
  ⟨l, vs, k, ys, nx, oC, mC, J', rfl, hh, he, hm, F, hC, fun p hp => N p (hsub p hp), tr, off, j0, hS, turn, done⟩
end
end Mine
namespace Mine
section
variable {prog : Program} {w : World} {A : Around} {s s₁ : Shared} {h₀ : Heap} {L : Addr} {m : Str → Option Value} {env : Env} {E : Value → Shared → Prop} {scope : Scope} {cl : List (Str × Addr)} {I C D : Addr} {oI oC : Obj} {ys : List Value} {mC : Str → Option Value}
/-- the state of an inner loop that makes nothing but its items -/
noncomputable def NJ (I : Addr) (oI : Obj) (C D : Addr) (NX : Led) (J : List Value → Prop) (ys : List Value) (nx' : Led) : Prop := ∃ nx, nx' = (I, oI) :: nx ∧ Off3 I C D nx ∧ nx = NX ∧ J ys
theorem NSrc.mkCJ {elt target : Expr} {ifs : List Expr} {gens : List Comprehension} {pos : Pos} {d : Nat} {l : Addr} {vs : List Value} {k : Nat} {led led9 nx₀ tl tl' : Led} {P : Nat → List Value → Led → Prop} {i1 : Nat} (J' : Nat → List Value → Prop) (F : Fr h₀ L s.heap m) (N : News h₀ L s.heap led) (hh : A.handled = none) (he : ∃ hh tk, s = { s₁ with heap := hh, toks := tk })
    (off : Off3 I C D (nx₀ ++ tl)) (o1 : Above nx₀ tl) (o9 : ∀ q ∈ led9, ∀ p ∈ tl', q.1 < p.1) (s9 : ∀ q ∈ (I, oI) :: (C, oC) :: (D, lst ys) :: nx₀, q ∈ led9)
    (hsub : ∀ p ∈ (I, oI) :: (C, oC) :: (D, lst ys) :: (nx₀ ++ (tl ++ tl')), p ∈ led) (hm : (l, listOf (List.toArray vs) k) ∈ nx₀ ++ (tl ++ tl')) (hC : NsObj oC mC) (tr : Trip I C D) (j0 : J' 0 ys)
    (turn : ∀ (j : Nat) (v : Value) (ys : List Value) (h : Heap) (tk : Nat) (I' : Addr) (oI' oC : Obj) (mC : Str → Option Value), vs[j]? = some v → J' j ys → I < I' → Off3 I' C D ((I, oI) :: (nx₀ ++ (tl ++ tl'))) → Off3 I C D (nx₀ ++ (tl ++ tl')) → Trip I' C D → Fr h₀ L h m → NsObj oC mC → News h₀ L h ((I', oI') :: (C, oC) :: (D, lst ys) :: (I, oI) :: (nx₀ ++ (tl ++ tl'))) →
      CTurn prog w A h₀ L m (compEnvC scope cl C env) elt target ifs gens scope pos (d + 1) I' oI' C D (NJ I oI C D (nx₀ ++ (tl ++ tl')) (J' (j + 1))) v { s₁ with heap := h, toks := tk })
    (done : ∀ ys, J' vs.length ys → P i1 ys (nx₀ ++ (tl ++ tl'))) : NSrc prog w A h₀ L m (compEnvC scope cl C env) elt target ifs gens scope pos d I oI C D (CJ nx₀ P i1) s₁ (.ref l) s := by
  have o2 := ord_sub o9 s9
  have off' : Off3 I C D (nx₀ ++ (tl ++ tl')) := off3_app off fun p hp => ⟨Nat.ne_of_gt (o2 _ (.head _) p hp), Nat.ne_of_gt (o2 _ (.tail _ (.head _)) p hp), Nat.ne_of_gt (o2 _ (.tail _ (.tail _ (.head _))) p hp)⟩
  refine NSrc.mk (fun j ys nx => nx = nx₀ ++ (tl ++ tl') ∧ J' j ys) F N hh he hsub hm hC tr off' ⟨rfl, j0⟩ (fun j ys nx e => e.1 ▸ hm) ?_ ?_
  · rintro j v ys nx h tk I' oI' oC mC hv ⟨rfl, hj⟩ hlt off1 off2 tr' F' hC' N'
    exact turn j v ys h tk I' oI' oC mC hv hj hlt off1 off2 tr' F' hC' N'
  · rintro ys nx ⟨rfl, hj⟩
    exact ⟨tl ++ tl', rfl, ord_app o1 (ord_sub o2 fun _ h => .tail _ (.tail _ (.tail _ h))), done ys hj⟩
theorem CEndY.same {I' : Addr} {oI' oC' : Obj} {NX led : Led} {J : List Value → Prop} {h' : Heap} {tk : Nat} {m' : Str → Option Value} {y : Value} (F : Fr h₀ L h' m) (hC : NsObj oC' m') (N : News h₀ L h' led) (sub : ∀ p ∈ (I', oI') :: (C, oC') :: (D, lst ys) :: (I, oI) :: NX, p ∈ led) (off1 : Off3 I' C D ((I, oI) :: NX)) (off2 : Off3 I C D NX) (hl : ys.length ≤ sizeLine) (hp : J (ys ++ [y])) :
    CEndY h₀ L m I' oI' C D (NJ I oI C D NX J) s₁ y { s₁ with heap := h', toks := tk } :=
  ⟨h', tk, ys, (I, oI) :: NX, oC', m', rfl, F, hC, fun p hp => N p (sub p hp), off1, hl, NX, rfl, off2, rfl, hp⟩
end
end Mine
namespace Mine
section
variable {prog : Program} {w : World} {A : Around} {s : Shared} {E : Value → Shared → Prop}
theorem len_listL {l : Addr} {vs : List Value} {Q : Value → Shared → Prop} (hl : s.heap.IsList l vs.toArray) (hz : vs.length < 2 ^ 62) (h : Q (.int (vs.length : Int) (s.toks + 1)) { s with toks := s.toks + 1 + 1 }) :
    wpAny (model prog w) A (call (.builtin "len") [.ref l]) Q E s := len_list hl (by simp; omega) (by simpa using h)
end
end Mine

end
section
open PySem
set_option maxRecDepth 100000
namespace Mine
theorem seg_nil {W lo hi : Int} (h : hi < lo) : ∀ (k : Nat) (b : Int), seg W lo hi k b = []
  | 0, b => by unfold seg; rw [if_pos (by omega)]
  | k + 1, b => by
    unfold seg
    have p : (0 : Int) < 2 ^ (k + 1) := Int.pow_pos (by decide)
    generalize (2 : Int) ^ (k + 1) = z at *
    split
    · rfl
    · rw [if_neg (by omega), seg_nil h k, seg_nil h k]; rfl
theorem rm_nil {bits : Nat} {lo hi : Int} (h : hi < lo) : rm bits lo hi = [] := seg_nil h _ _
theorem seg_ge {W lo hi : Int} : ∀ (k : Nat) (b : Int), b + 2 ^ k ≤ lo → seg W lo hi k b = []
  | 0, b, h => by unfold seg; rw [if_pos (by simp at h; omega)]
  | k + 1, b, h => by unfold seg; rw [if_pos (by omega)]
theorem seg_low {W lo lo' hi : Int} : ∀ (k : Nat) (b : Int), lo ≤ b → lo' ≤ b → seg W lo hi k b = seg W lo' hi k b
  | 0, b, h, h' => by
    unfold seg
    split <;> split <;> first | rfl | omega
  | k + 1, b, h, h' => by
    unfold seg
    have p : (0 : Int) < 2 ^ (k + 1) := Int.pow_pos (by decide)
    have p' : (0 : Int) < 2 ^ k := Int.pow_pos (by decide)
    rw [seg_low (lo' := lo') k b h h', seg_low (lo := lo) (lo' := lo') k (b + 2 ^ k) (by omega) (by omega)]
    generalize (2 : Int) ^ (k + 1) = z at *
    split <;> split <;> (try split) <;> (try split) <;> first | rfl | omega
theorem dvd_gap {z x y : Int} (hx : z ∣ x) (hy : z ∣ y) (h : x < y) (hz : 0 < z) : x + z ≤ y := by
  have := Int.le_of_dvd (by omega : 0 < y - x) (Int.dvd_sub hy hx)
  omega
theorem seg_step {W lo hi : Int} {j bits : Nat} (h1 : lo ≤ hi) (hd : (2 : Int) ^ j ∣ lo) (hf : lo + 2 ^ j - 1 ≤ hi) (hm : ∀ j', j < j' → j' ≤ bits → (2 : Int) ^ j' ∣ lo → hi < lo + 2 ^ j' - 1) :
    ∀ (k : Nat) (b : Int), k ≤ bits → (2 : Int) ^ k ∣ b → b ≤ lo → lo < b + 2 ^ k → j ≤ k → seg W lo hi k b = (lo, W - 2 ^ j) :: seg W (lo + 2 ^ j) hi k b
  | 0, b, _, _, h3, h4, hj => by
    obtain rfl : j = 0 := by omega
    obtain rfl : lo = b := by simp at h4; omega
    unfold seg
    rw [if_neg (by omega), if_pos (by simp)]
    rfl
  | k + 1, b, hk, hb, h3, h4, hj => by
    have p : (0 : Int) < 2 ^ (k + 1) := Int.pow_pos (by decide)
    have p' : (0 : Int) < 2 ^ k := Int.pow_pos (by decide)
    have pj : (0 : Int) < 2 ^ j := Int.pow_pos (by decide)
    have e : (2 : Int) ^ (k + 1) = 2 ^ k + 2 ^ k := by rw [Int.pow_succ]; omega
    by_cases c : lo ≤ b ∧ b + 2 ^ (k + 1) - 1 ≤ hi
    · have q : lo = b := by omega
      have ej : j = k + 1 := by
        by_cases ej : j = k + 1
        · exact ej
        · have := hm (k + 1) (by omega) hk (q ▸ hb)
          omega
      subst ej
      rw [seg_ge (lo := lo + 2 ^ (k + 1)) (k + 1) b (by omega)]
      conv => lhs; unfold seg
      rw [if_neg (by omega), if_pos c, q]
    · have hj' : j ≤ k := by
        by_cases ej : j = k + 1
        · exfalso
          subst ej
          by_cases q : b = lo
          · subst q; omega
          · have := dvd_gap hb hd (by omega) p
            omega
        · omega
      have db : (2 : Int) ^ k ∣ b := Int.dvd_trans (ipow_dvd (by omega)) hb
      have db2 : (2 : Int) ^ k ∣ b + 2 ^ k := Int.dvd_add db (Int.dvd_refl _)
      have R : seg W (lo + 2 ^ j) hi (k + 1) b = seg W (lo + 2 ^ j) hi k b ++ seg W (lo + 2 ^ j) hi k (b + 2 ^ k) := by
        by_cases d : b + 2 ^ (k + 1) ≤ lo + 2 ^ j
        · rw [seg_ge (k + 1) b d, seg_ge k b (by omega), seg_ge k (b + 2 ^ k) (by omega)]; rfl
        · conv => lhs; unfold seg
          rw [if_neg (by omega), if_neg (by omega)]
      rw [R]
      conv => lhs; unfold seg
      rw [if_neg (by omega), if_neg c]
      by_cases d : lo < b + 2 ^ k
      · rw [seg_step h1 hd hf hm k b (by omega) db h3 d hj']
        have g : lo + 2 ^ j ≤ b + 2 ^ k := dvd_gap hd (Int.dvd_trans (ipow_dvd hj') db2) d pj
        rw [seg_low (lo := lo) (lo' := lo + 2 ^ j) k (b + 2 ^ k) (by omega) g]
        rfl
      · rw [seg_ge k b (by omega), seg_ge k b (by omega), seg_step h1 hd hf hm k (b + 2 ^ k) (by omega) db2 (by omega) (by omega) hj']
        rfl
theorem rm_step {bits j : Nat} {lo hi : Int} (h0 : 0 ≤ lo) (h1 : lo ≤ hi) (h2 : hi < 2 ^ bits) (hj : j ≤ bits) (hd : (2 : Int) ^ j ∣ lo) (hf : lo + 2 ^ j - 1 ≤ hi) (hm : ∀ j', j < j' → j' ≤ bits → (2 : Int) ^ j' ∣ lo → hi < lo + 2 ^ j' - 1) :
    rm bits lo hi = (lo, 2 ^ bits - 2 ^ j) :: rm bits (lo + 2 ^ j) hi :=
  seg_step h1 hd hf hm bits 0 (Nat.le_refl _) (Int.dvd_zero _) h0 (by omega) hj
theorem seg_length {W lo hi : Int} : ∀ (k : Nat) (b : Int), ((seg W lo hi k b).length : Nat) ≤ 2 ^ k
  | 0, b => by unfold seg; split <;> simp
  | k + 1, b => by
    have i1 := seg_length (W := W) (lo := lo) (hi := hi) k b
    have i2 := seg_length (W := W) (lo := lo) (hi := hi) k (b + 2 ^ k)
    have e : (2 : Nat) ^ (k + 1) = 2 ^ k + 2 ^ k := by rw [Nat.pow_succ]; omega
    have p : 0 < (2 : Nat) ^ k := Nat.pow_pos (by decide)
    unfold seg
    split
    · simp
    split
    · simp only [List.length_cons, List.length_nil]; omega
    · rw [List.length_append]; omega
theorem rm_short {bits : Nat} {lo hi : Int} (hb : bits ≤ 8) (h0 : 0 ≤ lo) (h1 : hi < 2 ^ bits) : (rm bits lo hi).length ≤ 256 := Nat.le_trans (seg_length _ _) (pow_le256 hb)
noncomputable def fewest (lo hi : Int) : Nat → Int → Int
  | 0, b => if hi < b ∨ lo ≥ b + 1 then 0 else 1
  | j + 1, b => if hi < b ∨ lo ≥ b + 2 ^ (j + 1) then 0 else if lo ≤ b ∧ b + 2 ^ (j + 1) - 1 ≤ hi then 1 else fewest lo hi j b + fewest lo hi j (b + 2 ^ j)
theorem seg_few {W lo hi : Int} : ∀ (k : Nat) (b : Int), ((seg W lo hi k b).length : Int) = fewest lo hi k b
  | 0, b => by unfold seg fewest; split <;> rfl
  | k + 1, b => by
    unfold seg fewest
    split
    · rfl
    split
    · rfl
    · rw [List.length_append, Int.natCast_add, seg_few k, seg_few k]
theorem rm_few {bits : Nat} {lo hi : Int} (h0 : 0 ≤ lo) (h1 : hi < 2 ^ bits) (hlh : lo ≤ hi) : ((rm bits lo hi).length : Int) = fewest lo hi bits 0 := seg_few _ _
end Mine
namespace Mine
theorem low_bit {lo : Int} (h0 : 0 < lo) (h1 : lo < 256) : ∃ j : Nat, Builtin.bitAnd lo (-lo) = 2 ^ j ∧ (2 : Int) ^ j ∣ lo ∧ ∀ j', j < j' → ¬ (2 : Int) ^ j' ∣ lo := by
  have H : ∀ n : Fin 256, 0 < n.val → ∃ j : Fin 8, Builtin.bitAnd (n.val : Int) (-(n.val : Int)) = 2 ^ j.val ∧ (2 : Int) ^ j.val ∣ (n.val : Int) ∧ ¬ (2 : Int) ^ (j.val + 1) ∣ (n.val : Int) := by decide +kernel
  obtain ⟨n, rfl⟩ : ∃ n : Nat, lo = (n : Int) := ⟨lo.toNat, by omega⟩
  obtain ⟨j, a, b, c⟩ := H ⟨n, by omega⟩ (by show 0 < n; omega)
  exact ⟨j.val, a, b, fun j' hj d => c (Int.dvd_trans (ipow_dvd (by omega)) d)⟩
theorem and_and {a b : Int} (ha : 0 ≤ a) (hb : 0 ≤ b) : Builtin.bitAnd (Builtin.bitAnd a b) b = Builtin.bitAnd a b := by
  obtain ⟨x, rfl⟩ : ∃ x : Nat, a = (x : Int) := ⟨a.toNat, by omega⟩
  obtain ⟨y, rfl⟩ : ∃ y : Nat, b = (y : Int) := ⟨b.toNat, by omega⟩
  have e : ∀ x y : Nat, Builtin.bitAnd (x : Int) (y : Int) = ((x &&& y : Nat) : Int) := fun x y => by
    unfold Builtin.bitAnd
    simp
  rw [e, e, Nat.and_assoc, Nat.and_self]
noncomputable def OkM (p : Int × Int) : Prop := 0 ≤ p.1 ∧ p.1 < 8 ∧ 0 ≤ p.2 ∧ p.2 < 8 ∧ Builtin.bitAnd p.1 p.2 = p.1
noncomputable def hasM (p : Int × Int) (n : Int) : Bool := Builtin.bitAnd n p.2 == p.1
theorem mask_pair {p q : Int × Int} (hp : OkM p) (hq : OkM q) : maskWithin p q = ((upto 8).all fun n => !hasM p n || hasM q n) ∧ masksMeet p q = (upto 8).any fun n => hasM p n && hasM q n := by
  have H : ∀ v m v' m' : Fin 8, Builtin.bitAnd (v.val : Int) (m.val : Int) = v.val → Builtin.bitAnd (v'.val : Int) (m'.val : Int) = v'.val →
      maskWithin ((v.val : Int), (m.val : Int)) ((v'.val : Int), (m'.val : Int)) = ((upto 8).all fun n => !hasM ((v.val : Int), (m.val : Int)) n || hasM ((v'.val : Int), (m'.val : Int)) n) ∧ masksMeet ((v.val : Int), (m.val : Int)) ((v'.val : Int), (m'.val : Int)) = (upto 8).any fun n => hasM ((v.val : Int), (m.val : Int)) n && hasM ((v'.val : Int), (m'.val : Int)) n := by decide +kernel
  obtain ⟨v, m⟩ := p
  obtain ⟨v', m'⟩ := q
  obtain ⟨a1, a2, a3, a4, a5⟩ := hp
  obtain ⟨b1, b2, b3, b4, b5⟩ := hq
  dsimp only at a1 a2 a3 a4 a5 b1 b2 b3 b4 b5
  obtain ⟨v, rfl⟩ : ∃ n : Nat, v = (n : Int) := ⟨v.toNat, by omega⟩
  obtain ⟨m, rfl⟩ : ∃ n : Nat, m = (n : Int) := ⟨m.toNat, by omega⟩
  obtain ⟨v', rfl⟩ : ∃ n : Nat, v' = (n : Int) := ⟨v'.toNat, by omega⟩
  obtain ⟨m', rfl⟩ : ∃ n : Nat, m' = (n : Int) := ⟨m'.toNat, by omega⟩
  exact H ⟨v, by omega⟩ ⟨m, by omega⟩ ⟨v', by omega⟩ ⟨m', by omega⟩ a5 b5
theorem mask_range {v m lo hi : Int} (hp : OkM (v, m)) (h0 : 0 ≤ lo) (h1 : lo ≤ hi) (h2 : hi < 8) : (decide (lo ≤ v) && decide (v + (8 - 1 - m) ≤ hi)) = (upto 8).all fun n => !hasM (v, m) n || (decide (lo ≤ n) && decide (n ≤ hi)) := by
  have H : ∀ v m lo hi : Fin 8, Builtin.bitAnd (v.val : Int) (m.val : Int) = v.val → lo.val ≤ hi.val →
      (decide ((lo.val : Int) ≤ v.val) && decide ((v.val : Int) + (8 - 1 - m.val) ≤ hi.val)) = (upto 8).all fun n => !hasM ((v.val : Int), (m.val : Int)) n || (decide ((lo.val : Int) ≤ n) && decide (n ≤ (hi.val : Int))) := by decide +kernel
  obtain ⟨a1, a2, a3, a4, a5⟩ := hp
  dsimp only at a1 a2 a3 a4 a5
  obtain ⟨v, rfl⟩ : ∃ n : Nat, v = (n : Int) := ⟨v.toNat, by omega⟩
  obtain ⟨m, rfl⟩ : ∃ n : Nat, m = (n : Int) := ⟨m.toNat, by omega⟩
  obtain ⟨lo, rfl⟩ : ∃ n : Nat, lo = (n : Int) := ⟨lo.toNat, by omega⟩
  obtain ⟨hi, rfl⟩ : ∃ n : Nat, hi = (n : Int) := ⟨hi.toNat, by omega⟩
  exact H ⟨v, by omega⟩ ⟨m, by omega⟩ ⟨lo, by omega⟩ ⟨hi, by omega⟩ a5 (by show lo ≤ hi; omega)
theorem range_cut {lo hi : Int} (h0 : 0 ≤ lo) (h1 : lo ≤ hi) (h2 : hi < 8) : (∀ p ∈ rm 3 lo hi, OkM p) ∧ ∀ n ∈ upto 8, (decide (lo ≤ n) && decide (n ≤ hi)) = (rm 3 lo hi).any fun p => hasM p n := by
  have H : ∀ lo hi : Fin 8, lo.val ≤ hi.val → (∀ p ∈ rm 3 (lo.val : Int) (hi.val : Int), 0 ≤ p.1 ∧ p.1 < 8 ∧ 0 ≤ p.2 ∧ p.2 < 8 ∧ Builtin.bitAnd p.1 p.2 = p.1) ∧ ∀ n ∈ upto 8, (decide ((lo.val : Int) ≤ n) && decide (n ≤ (hi.val : Int))) = (rm 3 (lo.val : Int) (hi.val : Int)).any fun p => hasM p n := by decide +kernel
  obtain ⟨lo, rfl⟩ : ∃ n : Nat, lo = (n : Int) := ⟨lo.toNat, by omega⟩
  obtain ⟨hi, rfl⟩ : ∃ n : Nat, hi = (n : Int) := ⟨hi.toNat, by omega⟩
  exact H ⟨lo, by omega⟩ ⟨hi, by omega⟩ (by show lo ≤ hi; omega)
theorem okM_of {v m : Int} (ok : (Wish.mask v m).ok 3) : OkM (v, m) := by
  obtain ⟨a, b, c⟩ := ok
  have r := PyProof.Rows.bitAnd_range v a
  rw [c] at r
  have b' : m < 8 := b
  exact ⟨by show 0 ≤ v; omega, by show v < 8; omega, a, b', c⟩
theorem masks_cut {d : Wish} (ok : d.ok 3) : (∀ p ∈ d.masks 3, OkM p) ∧ ∀ n ∈ upto 8, d.has n = (d.masks 3).any fun p => hasM p n := by
  cases d with
  | mask v m =>
    refine ⟨fun p hp => ?_, fun n _ => ?_⟩
    · rw [show p = (v, m) from by simpa [Wish.masks] using hp]
      exact okM_of ok
    · simp [Wish.masks, Wish.has, hasM]
  | range lo hi =>
    obtain ⟨a, b, c⟩ := ok
    exact range_cut a b c
theorem mem_upto8 {n : Int} : n ∈ upto 8 ↔ 0 ≤ n ∧ n < 8 := by
  unfold upto
  rw [List.mem_map]
  constructor
  · rintro ⟨i, hi, rfl⟩
    have := List.mem_range.mp hi
    omega
  · rintro ⟨h1, h2⟩
    exact ⟨n.toNat, List.mem_range.mpr (by omega), by omega⟩
theorem within_has {d d' : Wish} (ok : d.ok 3) (ok' : d'.ok 3) : d.within 3 d' = true ↔ ∀ n ∈ upto 8, d.has n = true → d'.has n = true := by
  cases d' with
  | mask v m =>
    obtain ⟨hm, hn⟩ := masks_cut ok
    have hq := okM_of ok'
    simp only [Wish.within]
    rw [List.all_eq_true]
    constructor
    · intro h n hn8 hd
      rw [hn n hn8, List.any_eq_true] at hd
      obtain ⟨p, hp, hpn⟩ := hd
      have := h p hp
      rw [(mask_pair (hm p hp) hq).1, List.all_eq_true] at this
      have := this n hn8
      rw [hpn] at this
      simpa [Wish.has, hasM] using this
    · intro h p hp
      rw [(mask_pair (hm p hp) hq).1, List.all_eq_true]
      intro n hn8
      cases hpn : hasM p n with
      | false => rfl
      | true =>
        have := h n hn8 (by rw [hn n hn8, List.any_eq_true]; exact ⟨p, hp, hpn⟩)
        simpa [Wish.has, hasM] using this
  | range lo hi =>
    obtain ⟨a, b, c⟩ := ok'
    have c' : hi < 8 := c
    cases d with
    | mask v m =>
      have := mask_range (okM_of ok) a b c'
      show (decide (lo ≤ v) && decide (v + (8 - 1 - m) ≤ hi)) = true ↔ _
      rw [this, List.all_eq_true]
      constructor
      · intro h n hn8 hd
        have := h n hn8
        rw [show hasM (v, m) n = true from hd] at this
        simpa [Wish.has] using this
      · intro h n hn8
        cases hpn : hasM (v, m) n with
        | false => rfl
        | true => simpa [Wish.has] using h n hn8 hpn
    | range lo' hi' =>
      obtain ⟨a', b', c''⟩ := ok
      have d' : hi' < 8 := c''
      show (decide (lo ≤ lo') && decide (hi' ≤ hi)) = true ↔ ∀ n ∈ upto 8, (decide (lo' ≤ n) && decide (n ≤ hi')) = true → (decide (lo ≤ n) && decide (n ≤ hi)) = true
      simp only [Bool.and_eq_true, decide_eq_true_eq]
      constructor
      · intro h n _ hn; omega
      · intro h
        have h1 := h lo' (mem_upto8.mpr (by omega)) (by omega)
        have h2 := h hi' (mem_upto8.mpr (by omega)) (by omega)
        omega
theorem meets_has {d d' : Wish} (ok : d.ok 3) (ok' : d'.ok 3) : d.meets 3 d' = true ↔ ∃ n ∈ upto 8, d.has n = true ∧ d'.has n = true := by
  obtain ⟨hm, hn⟩ := masks_cut ok
  obtain ⟨hm', hn'⟩ := masks_cut ok'
  have G : ((d.masks 3).any fun p => (d'.masks 3).any fun q => masksMeet p q) = true ↔ ∃ n ∈ upto 8, d.has n = true ∧ d'.has n = true := by
    rw [List.any_eq_true]
    constructor
    · rintro ⟨p, hp, h⟩
      rw [List.any_eq_true] at h
      obtain ⟨q, hq, h⟩ := h
      rw [(mask_pair (hm p hp) (hm' q hq)).2, List.any_eq_true] at h
      obtain ⟨n, hn8, h⟩ := h
      rw [Bool.and_eq_true] at h
      exact ⟨n, hn8, by rw [hn n hn8, List.any_eq_true]; exact ⟨p, hp, h.1⟩, by rw [hn' n hn8, List.any_eq_true]; exact ⟨q, hq, h.2⟩⟩
    · rintro ⟨n, hn8, h, h'⟩
      rw [hn n hn8, List.any_eq_true] at h
      rw [hn' n hn8, List.any_eq_true] at h'
      obtain ⟨p, hp, h⟩ := h
      obtain ⟨q, hq, h'⟩ := h'
      refine ⟨p, hp, ?_⟩
      rw [List.any_eq_true]
      refine ⟨q, hq, ?_⟩
      rw [(mask_pair (hm p hp) (hm' q hq)).2, List.any_eq_true]
      exact ⟨n, hn8, by rw [h, h']; rfl⟩
  cases d with
  | mask v m => exact G
  | range lo hi =>
    cases d' with
    | mask v m => exact G
    | range lo' hi' =>
      obtain ⟨a, b, c⟩ := ok
      obtain ⟨a', b', c'⟩ := ok'
      have e : hi < 8 := c
      have e' : hi' < 8 := c'
      simp only [Wish.meets, Wish.has, Bool.and_eq_true, decide_eq_true_eq]
      constructor
      · intro h
        by_cases q : lo ≤ lo'
        · exact ⟨lo', mem_upto8.mpr (by omega), by omega⟩
        · exact ⟨lo, mem_upto8.mpr (by omega), by omega⟩
      · rintro ⟨n, _, h⟩; omega
theorem pair_law {d d' : Wish} (ok : d.ok 3) (ok' : d'.ok 3) : d.within 3 d' = decide ((d.nums 3).filter (fun n => (d'.nums 3).any (· == n)) = d.nums 3) ∧ d.meets 3 d' = !decide ((d.nums 3).filter (fun n => (d'.nums 3).any (· == n)) = []) := by
  have m1 : ∀ n, n ∈ d.nums 3 ↔ n ∈ upto 8 ∧ d.has n = true := fun n => List.mem_filter
  have m2 : ∀ n, (d'.nums 3).any (· == n) = true ↔ n ∈ upto 8 ∧ d'.has n = true := fun n => by
    rw [List.any_eq_true]
    constructor
    · rintro ⟨x, hx, e⟩
      rw [beq_iff_eq] at e
      subst e
      exact List.mem_filter.mp hx
    · intro h
      exact ⟨n, List.mem_filter.mpr h, beq_self_eq_true n⟩
  constructor
  · rw [Bool.eq_iff_iff, within_has ok ok', decide_eq_true_eq, List.filter_eq_self]
    constructor
    · intro h n hn
      obtain ⟨h1, h2⟩ := (m1 n).mp hn
      exact (m2 n).mpr ⟨h1, h n h1 h2⟩
    · intro h n h1 h2
      exact ((m2 n).mp (h n ((m1 n).mpr ⟨h1, h2⟩))).2
  · rw [Bool.eq_iff_iff, meets_has ok ok', Bool.not_eq_true', decide_eq_false_iff_not, List.filter_eq_nil_iff]
    constructor
    · rintro ⟨n, h1, h2, h3⟩ h
      exact h n ((m1 n).mpr ⟨h1, h2⟩) ((m2 n).mpr ⟨h1, h3⟩)
    · intro h
      rcases Classical.not_forall.mp h with ⟨n, h⟩
      rcases Classical.not_imp.mp h with ⟨h1, h2⟩
      obtain ⟨h1, h3⟩ := (m1 n).mp h1
      exact ⟨n, h1, h3, ((m2 n).mp (Classical.not_not.mp h2)).2⟩
end Mine
namespace Mine
/-- the numbers b, b+1, .. of a block -/
noncomputable def blk (b : Int) (n : Nat) : List Int := (List.range n).map fun i : Nat => b + (i : Int)
theorem blk_add (b : Int) (n m : Nat) : blk b (n + m) = blk b n ++ blk (b + n) m := by
  unfold blk
  rw [List.range_add, List.map_append, List.map_map]
  congr 1
  apply List.map_congr_left
  intro i _
  simp only [Function.comp_apply, Int.natCast_add]
  omega
theorem mem_blk {b : Int} {n : Nat} {x : Int} : x ∈ blk b n ↔ b ≤ x ∧ x < b + n := by
  unfold blk
  rw [List.mem_map]
  constructor
  · rintro ⟨i, hi, rfl⟩
    have := List.mem_range.mp hi
    omega
  · rintro ⟨h1, h2⟩
    exact ⟨(x - b).toNat, List.mem_range.mpr (by omega), by omega⟩
theorem filter_blk {p : Int → Bool} {n : Nat} : ∀ {b : Int} (W : Nat), 0 ≤ b → b + n ≤ W → (∀ x : Int, 0 ≤ x → x < W → (p x = true ↔ b ≤ x ∧ x < b + n)) → (upto W).filter p = blk b n := by
  intro b W h0 h1 h
  obtain ⟨B, rfl⟩ : ∃ B : Nat, b = (B : Int) := ⟨b.toNat, by omega⟩
  have e : upto W = blk 0 B ++ (blk B n ++ blk (B + n) (W - (B + n))) := by
    have : upto W = blk 0 W := by unfold upto blk; apply List.map_congr_left; intro i _; omega
    obtain ⟨r, hr⟩ : ∃ r, W - (B + n) = r := ⟨_, rfl⟩
    have hW : W = B + (n + r) := by omega
    rw [hr, this, hW, blk_add, blk_add]
    simp
  rw [e, List.filter_append, List.filter_append, List.filter_eq_nil_iff.mpr, List.filter_eq_self.mpr, List.filter_eq_nil_iff.mpr]
  · simp
  · intro x hx
    have := mem_blk.mp hx
    intro hp
    have q := (h x (by omega) (by omega)).mp hp
    omega
  · intro x hx
    have := mem_blk.mp hx
    exact (h x (by omega) (by omega)).mpr (by omega)
  · intro x hx
    have := mem_blk.mp hx
    intro hp
    have q := (h x (by omega) (by omega)).mp hp
    omega
theorem nat_high {b j n : Nat} (hj : j ≤ b) (hn : n < 2 ^ b) : n &&& (2 ^ b - 2 ^ j) = n - n % 2 ^ j := by
  have pj : 0 < (2 : Nat) ^ j := Nat.pow_pos (by decide)
  have hle : (2 : Nat) ^ j ≤ 2 ^ b := Nat.pow_le_pow_right (by decide) hj
  have e : n - n % 2 ^ j = 2 ^ j * (n / 2 ^ j) := by have := Nat.div_add_mod n (2 ^ j); omega
  have e2 : (2 : Nat) ^ b - 2 ^ j = 2 ^ b - ((2 ^ j - 1) + 1) := by omega
  apply Nat.eq_of_testBit_eq
  intro i
  rw [e, Nat.testBit_and, e2, Nat.testBit_two_pow_sub_succ (by omega), Nat.testBit_two_pow_sub_one, Nat.testBit_two_pow_mul, Nat.testBit_div_two_pow]
  by_cases h1 : j ≤ i
  · have : j + (i - j) = i := by omega
    by_cases h2 : i < b
    · simp [h1, h2]
      try omega
    · have : n.testBit i = false := Nat.testBit_lt_two_pow (Nat.lt_of_lt_of_le hn (Nat.pow_le_pow_right (by decide) (by omega)))
      simp [h1, h2, this]
  · simp [h1]
    try omega
theorem and_high {b j n : Nat} (hj : j ≤ b) (hn : n < 2 ^ b) : Builtin.bitAnd (n : Int) (2 ^ b - 2 ^ j) = ((n - n % 2 ^ j : Nat) : Int) := by
  have hle : (2 : Nat) ^ j ≤ 2 ^ b := Nat.pow_le_pow_right (by decide) hj
  have ew : (2 : Int) ^ b - 2 ^ j = ((2 ^ b - 2 ^ j : Nat) : Int) := by
    have a : ((2 ^ b : Nat) : Int) = 2 ^ b := by simp
    have c : ((2 ^ j : Nat) : Int) = 2 ^ j := by simp
    omega
  have e : ∀ x y : Nat, Builtin.bitAnd (x : Int) (y : Int) = ((x &&& y : Nat) : Int) := fun x y => by
    unfold Builtin.bitAnd
    simp
  rw [ew, e, nat_high hj hn]
theorem nums_block {bits j : Nat} {b : Int} (hb : bits ≤ 8) (hj : j ≤ bits) (h0 : 0 ≤ b) (hd : (2 : Int) ^ j ∣ b) (h1 : b + 2 ^ j ≤ 2 ^ bits) : (Wish.mask b (2 ^ bits - 2 ^ j)).nums bits = blk b (2 ^ j) := by
  have hp8 := pow_le256 hb
  have ez : ((2 ^ j : Nat) : Int) = 2 ^ j := by simp
  have ew : ((2 ^ bits : Nat) : Int) = 2 ^ bits := by simp
  have pj : 0 < (2 : Nat) ^ j := Nat.pow_pos (by decide)
  refine filter_blk (2 ^ bits) h0 (by rw [ez, ew]; exact h1) fun x hx hw => ?_
  obtain ⟨n, rfl⟩ : ∃ n : Nat, x = (n : Int) := ⟨x.toNat, by omega⟩
  have hn : n < 2 ^ bits := by omega
  have A := and_high hj hn
  show (Builtin.bitAnd (n : Int) (2 ^ bits - 2 ^ j) == b) = true ↔ _
  rw [A, beq_iff_eq]
  obtain ⟨c, hc⟩ := hd
  rw [← ez] at hc
  generalize hz : (2 : Nat) ^ j = z at *
  have hm := Nat.mod_lt n pj
  have hdm := Nat.div_add_mod n z
  obtain ⟨C, rfl⟩ : ∃ C : Nat, c = (C : Int) := ⟨c.toNat, by
    have : 0 ≤ c := by
      by_cases q : 0 ≤ c
      · exact q
      · have := Int.mul_lt_mul_of_pos_left (show c < 0 by omega) (show (0 : Int) < z by omega)
        omega
    omega⟩
  have hb' : b = ((z * C : Nat) : Int) := by rw [hc]; simp
  constructor
  · intro q; omega
  · rintro ⟨q1, q2⟩
    have d : n / z = C := by
      have a1 : C ≤ n / z := (Nat.le_div_iff_mul_le pj).mpr (by rw [Nat.mul_comm]; omega)
      have a2 : n / z < C + 1 := (Nat.div_lt_iff_lt_mul pj).mpr (by rw [Nat.mul_comm, Nat.mul_add]; omega)
      omega
    rw [d] at hdm
    omega
theorem seg_nums {bits : Nat} {lo hi : Int} (hb : bits ≤ 8) : ∀ (k : Nat) (b : Int), k ≤ bits → 0 ≤ b → (2 : Int) ^ k ∣ b → b + 2 ^ k ≤ 2 ^ bits →
    ((seg (2 ^ bits) lo hi k b).flatMap fun p => (Wish.mask p.1 p.2).nums bits) = (blk b (2 ^ k)).filter fun n => decide (lo ≤ n ∧ n ≤ hi)
  | 0, b, hk, h0, hd, h1 => by
    have e : blk b (2 ^ 0) = [b] := by simp [blk]
    rw [e]
    unfold seg
    by_cases c : hi < b ∨ lo ≥ b + 1
    · rw [if_pos c, List.filter_cons, if_neg (by simp; omega)]; rfl
    · rw [if_neg c, List.filter_cons, if_pos (by simp; omega)]
      have := nums_block hb (Nat.zero_le bits) h0 hd h1
      rw [e] at this
      simpa using this
  | k + 1, b, hk, h0, hd, h1 => by
    have p' : (0 : Int) < 2 ^ k := Int.pow_pos (by decide)
    have ez : ((2 ^ (k + 1) : Nat) : Int) = 2 ^ (k + 1) := by simp
    have ek : ((2 ^ k : Nat) : Int) = 2 ^ k := by simp
    have e2 : (2 : Int) ^ (k + 1) = 2 ^ k + 2 ^ k := by rw [Int.pow_succ]; omega
    have db : (2 : Int) ^ k ∣ b := Int.dvd_trans (ipow_dvd (by omega)) hd
    unfold seg
    by_cases c : hi < b ∨ lo ≥ b + 2 ^ (k + 1)
    · rw [if_pos c]
      symm
      refine List.filter_eq_nil_iff.mpr fun x hx => ?_
      have := mem_blk.mp hx
      rw [ez] at this
      simp only [decide_eq_true_eq]
      omega
    · rw [if_neg c]
      by_cases c' : lo ≤ b ∧ b + 2 ^ (k + 1) - 1 ≤ hi
      · rw [if_pos c', List.flatMap_cons, List.flatMap_nil, List.append_nil, nums_block hb hk h0 hd h1]
        symm
        refine List.filter_eq_self.mpr fun x hx => ?_
        have := mem_blk.mp hx
        rw [ez] at this
        simp only [decide_eq_true_eq]
        omega
      · rw [if_neg c', List.flatMap_append, seg_nums hb k b (by omega) h0 db (by omega), seg_nums hb k (b + 2 ^ k) (by omega) (by omega) (Int.dvd_add db (Int.dvd_refl _)) (by omega)]
        rw [← List.filter_append, ← ek, ← blk_add]
        congr 2
        rw [Nat.pow_succ]; omega
theorem rm_nums {bits : Nat} {lo hi : Int} (hb : bits ≤ 8) (h0 : 0 ≤ lo) (h1 : hi < 2 ^ bits) (hlh : lo ≤ hi) : ((rm bits lo hi).flatMap fun p => (Wish.mask p.1 p.2).nums bits) = (List.range (hi + 1 - lo).toNat).map (fun i : Nat => lo + (i : Int)) := by
  unfold rm
  rw [seg_nums hb bits 0 (Nat.le_refl _) (Int.le_refl _) (Int.dvd_zero _) (by omega)]
  have ew : ((2 ^ bits : Nat) : Int) = 2 ^ bits := by simp
  have : blk 0 (2 ^ bits) = upto (2 ^ bits) := by unfold upto blk; apply List.map_congr_left; intro i _; omega
  rw [this]
  refine filter_blk (2 ^ bits) h0 (by rw [ew]; omega) fun x hx hw => ?_
  simp only [decide_eq_true_eq]
  omega
end Mine

end
section
open PySem PySem.W PyProof.Rows PySem.Spec PySem.Calls
open LCg (NsObj ns_obj lst lst_snoc Off3)
set_option maxRecDepth 100000
namespace Mine
section
variable {prog : Program} {w : World} {A : Around} {E : Value → Shared → Prop} {s : Shared} {h₀ : Heap} {L d : Addr} {m : Str → Option Value} {news : Led} {o : Obj} {Q : Value → Shared → Prop}
theorem ints_of_keys {kvs : List (Int × Value)} : ∀ {vs : List Value}, vs.length = kvs.length → (∀ (j : Nat) (v : Value), vs[j]? = some v → ∃ k x, kvs[j]? = some (k, x) ∧ (intKind prog w).is k v = true) → IntsAre vs (kvs.map Prod.fst) := by
  induction kvs with
  | nil =>
    intro vs hl _
    rw [List.eq_nil_of_length_eq_zero hl]
    exact .nil
  | cons p r ih =>
    intro vs hl h
    match vs, hl with
    | v :: vs, hl =>
      obtain ⟨k, x, e, hk⟩ := h 0 v rfl
      simp at e
      obtain rfl := e
      obtain ⟨t, rfl⟩ := Value.isInt_shape hk
      exact .cons _ _ (ih (by simpa using hl) fun j v e => h (j + 1) v (by simpa using e))
theorem sorted_kvs {kvs : List (Int × Value)} (hh : A.handled = none) (F : Fr h₀ L s.heap m) (N : News h₀ L s.heap news) (hm : (d, o) ∈ news) (hs : (d == sysModules) = false) (ho : o.IsDictOf (intKind prog w) kvs) (hn : kvs.length < 64) (hp : (kvs.map Prod.fst).Pairwise (· ≤ ·))
    (h : ∀ (B : Addr) (h' : Heap) (tk : Nat) (vs : List Value) (c : Nat), Fr h₀ L h' m → News h₀ L h' ((B, listOf vs.toArray c) :: news) → (∀ q ∈ news, q.1 < B) → IntsAre vs (kvs.map Prod.fst) → Q (.ref B) { s with heap := h', toks := tk }) :
    wpAny (model prog w) A (call (.builtin "sorted") [.ref d]) Q E s := by
  obtain ⟨ep, hat⟩ := (kda_dict N hm ho).dictAt
  refine kdu_sorted (kdl_dict (knd := intKind prog w) (kvs := kvs) (ep := ep) hs) hh F N hat (by rw [sizeLine_eq]; omega) fun B h' tk vs F' N' l1 hl hv => ?_
  have hi : IntsAre vs (kvs.map Prod.fst) := ints_of_keys hl hv
  refine ksk_lsort (news' := fun o => (B, o) :: news) F' N' (fun o => .head fun p hp => Nat.ne_of_lt (l1 p hp)) (by simp) hi (by rw [List.length_map]; exact hn) fun vs' ns' c h'' F2 N2 i2 _ p2 o2 _ => ?_
  have e : ns' = kvs.map Prod.fst := List.Perm.eq_of_pairwise (fun a b _ _ h1 h2 => Int.le_antisymm h1 h2) o2 hp p2
  rw [e] at i2
  exact h B h'' tk vs' c F2 N2 l1 i2
end
end Mine
namespace Mine
section
variable {prog : Program} {w : World} {A : Around} {E : Value → Shared → Prop} {s : Shared} {h₀ : Heap} {L d : Addr} {m : Str → Option Value} {news : Led} {o : Obj} {Q : Value → Shared → Prop}
theorem dict_copy {kvs : List (Int × Value)} (F : Fr h₀ L s.heap m) (N : News h₀ L s.heap news) (hbig : sysModules < h₀.objs.size) (hm : (d, o) ∈ news) (hs : (d == sysModules) = false) (ho : o.IsDictOf (intKind prog w) kvs) (hn : kvs.length < 64)
    (h : ∀ (D : Addr) (h' : Heap) (o' : Obj), Fr h₀ L h' m → News h₀ L h' ((D, o') :: news) → (∀ q ∈ news, q.1 < D) → (D == sysModules) = false → o'.IsDictOf (intKind prog w) kvs → Q (.ref D) { s with heap := h' }) :
    wpAny (model prog w) A (call (.type "dict") [.ref d]) Q E s := by
  refine kt_call_dict hs (kda_dict N hm ho) (by rw [sizeLine_eq]; omega) fun h' hmm hsb => ?_
  obtain ⟨o', ho', hd'⟩ := Heap.dictOf_iff.mp hmm
  have N1 := News.push F N { cls := .type "dict", data := .dict #[] }
  have F1 := F.push { cls := .type "dict", data := .dict #[] }
  have zD := N1 _ (.head _)
  have up : ∀ b o, s.heap.get? b = some o → h'.get? b = some o := fun b o e => hsb.extBut b o (Nat.ne_of_lt (Heap.lt_size e)) (Heap.get?_push_of_some _ e)
  exact h _ h' o' (F.keeps up) (fun p hp => by
    rcases List.mem_cons.mp hp with rfl | hp
    · exact ⟨ho', zD.2⟩
    · exact ⟨up _ _ (N p hp).1, (N p hp).2⟩) (fun p hp => Heap.lt_size (N p hp).1) (F.notModules hbig) hd'
end
end Mine
namespace Mine
theorem ints0 {vs : List Value} (h : IntsAre vs (List.map Prod.fst ([] : List (Int × Value)))) : vs = [] := by cases h; rfl
theorem ints1 {vs : List Value} {a : Int} {x : Value} (h : IntsAre vs (List.map Prod.fst [(a, x)])) : ∃ t, vs = [.int a t] := by
  cases h with
  | cons n t h => cases h; exact ⟨_, rfl⟩
theorem ints2 {vs : List Value} {a b : Int} {x y : Value} (h : IntsAre vs (List.map Prod.fst [(a, x), (b, y)])) : ∃ t u, vs = [.int a t, .int b u] := by
  cases h with
  | cons n t h =>
    cases h with
    | cons n u h => cases h; exact ⟨_, _, rfl⟩
end Mine
namespace Mine
theorem units_under_type (A : Around) (args : Args) : (A.under (.builtin "type.__call__" args)).units = A.units + 1 := by rfl
end Mine
namespace Mine
/-- a rule's object: its action and a copy of its wishes -/
inductive RuleIn (w : World) (act : Str) (news : Led) (v : Value) (d : WD) : Prop
  | of9 : ∀ (x dx : Addr) (t t1 t2 : Tok) (wv : Value), (v = .ref x) → ((x, instObj 117 dx) ∈ news) → ((dx, dictOf [{ hash := PyData.keyHash w.params (Str.ofString "action"), key := .str (Str.ofString "action") t1, val := .str act t }, { hash := PyData.keyHash w.params (Str.ofString "wishes"), key := .str (Str.ofString "wishes") t2, val := wv }] 2) ∈ news) → (DictIn w news wv d) → RuleIn w act news v d
end Mine

end
section
open PySem PySem.W PyProof.Rows PySem.Spec PySem.Calls
set_option maxRecDepth 100000
namespace Mine
/-- a row of a rule: its place and its wish -/
inductive EntryIn (news : Led) (v : Value) (e : Int × Wish) : Prop
  | of9 : ∀ (b : Addr) (n : Nat) (t : Tok) (wv : Value), (v = .ref b) → ((b, tupO [.int e.1 t, wv] n) ∈ news) → (WishIn news wv e.2) → EntryIn news v e
theorem EntryIn.mono {l l' : Led} {v : Value} {e : Int × Wish} (h : EntryIn l v e) (s : ∀ p ∈ l, p ∈ l') : EntryIn l' v e := by
  obtain ⟨b, n, t, wv, e, h, k⟩ := h
  exact ⟨b, n, t, wv, e, s _ h, k.mono s⟩
noncomputable def WD.entries : WD → List (Int × Wish)
  | (none, none) => []
  | (some x, none) => [(4, x)]
  | (none, some y) => [(7, y)]
  | (some x, some y) => [(4, x), (7, y)]
theorem RuleIn.mono {w : World} {act : Str} {l l' : Led} {v : Value} {d : WD} (h : RuleIn w act l v d) (s : ∀ p ∈ l, p ∈ l') : RuleIn w act l' v d := by
  obtain ⟨x, dx, t, t1, t2, wv, e, h1, h2, h3⟩ := h
  exact ⟨x, dx, t, t1, t2, wv, e, s _ h1, s _ h2, h3.mono s⟩
theorem KvIn.len {l : Led} {kvs : List (Int × Value)} {d : WD} (h : KvIn l kvs d) : kvs.length < 64 := by cases h <;> simp
theorem KvIn.sorted {l : Led} {kvs : List (Int × Value)} {d : WD} (h : KvIn l kvs d) : (kvs.map Prod.fst).Pairwise (· ≤ ·) := by cases h <;> simp
theorem KvIn.elen {l : Led} {kvs : List (Int × Value)} {d : WD} (h : KvIn l kvs d) : kvs.length = d.entries.length := by cases h <;> rfl
/-- the i-th key of a rule's dict, with its value and the wish -/
theorem KvIn.at {l : Led} {kvs : List (Int × Value)} {d : WD} (h : KvIn l kvs d) {vs : List Value} (hi : IntsAre vs (kvs.map Prod.fst)) {i : Nat} {v : Value} (e : vs[i]? = some v) :
    ∃ (k : Int) (t : Tok) (a : Addr) (x : Wish), v = .int k t ∧ d.entries[i]? = some (k, x) ∧ WishIn l (.ref a) x ∧ valueAt kvs k = some (.ref a) ∧ (k = 4 ∧ d.1 = some x ∨ k = 7 ∧ d.2 = some x) := by
  cases h with
  | none => cases hi; cases e
  | four h4 =>
    obtain ⟨t, rfl⟩ := ints1 hi
    obtain ⟨a, rfl⟩ := h4.isRef
    match i, e with
    | 0, e => cases e; exact ⟨_, _, _, _, rfl, rfl, h4, rfl, .inl ⟨rfl, rfl⟩⟩
  | seven h7 =>
    obtain ⟨t, rfl⟩ := ints1 hi
    obtain ⟨a, rfl⟩ := h7.isRef
    match i, e with
    | 0, e => cases e; exact ⟨_, _, _, _, rfl, rfl, h7, rfl, .inr ⟨rfl, rfl⟩⟩
  | both h4 h7 =>
    obtain ⟨t, u, rfl⟩ := ints2 hi
    obtain ⟨a, rfl⟩ := h4.isRef
    obtain ⟨b, rfl⟩ := h7.isRef
    match i, e with
    | 0, e => cases e; exact ⟨_, _, _, _, rfl, rfl, h4, rfl, .inl ⟨rfl, rfl⟩⟩
    | 1, e => cases e; exact ⟨_, _, _, _, rfl, rfl, h7, rfl, .inr ⟨rfl, rfl⟩⟩
end Mine
namespace Mine
section
variable {h₀ h : Heap} {L : Addr} {a b c : Addr × Obj} {news tl : Led}
theorem tlc2 (N : News h₀ L h (a :: (b :: c :: news ++ tl))) : News h₀ L h (news ++ (a :: b :: c :: tl)) := fun p hp => N p (by simp only [List.mem_append, List.mem_cons] at hp ⊢; rcases hp with h | h | h | h | h <;> simp [h])
end
end Mine
namespace Mine
/-- a wish of a rule lies within the other one's, by its field -/
noncomputable def wishWithin (k : Int) (x y : Wish) : Bool := if k = 4 then x.within 3 y else x.within 8 y
noncomputable def WD.get (d : WD) (k : Int) : Option Wish := if k = 4 then d.1 else d.2
noncomputable def WD.entryWithin (d : WD) (e : Int × Wish) : Bool := match d.get e.1 with
  | some x => wishWithin e.1 x e.2
  | none => false
noncomputable def WD.within (d d' : WD) : Bool := d'.entries.all d.entryWithin
theorem WD.entry_at {d : WD} {i : Nat} {e : Int × Wish} (h : d.entries[i]? = some e) : e.1 = 4 ∧ d.1 = some e.2 ∨ e.1 = 7 ∧ d.2 = some e.2 := by
  match d, i, h with
  | (some x, none), 0, h => cases h; exact .inl ⟨rfl, rfl⟩
  | (none, some x), 0, h => cases h; exact .inr ⟨rfl, rfl⟩
  | (some x, some y), 0, h => cases h; exact .inl ⟨rfl, rfl⟩
  | (some x, some y), 1, h => cases h; exact .inr ⟨rfl, rfl⟩
theorem KvIn.get4 {l : Led} {kvs : List (Int × Value)} {d : WD} (h : KvIn l kvs d) : (d.1 = Option.none ∧ valueAt kvs 4 = Option.none) ∨ ∃ x a, d.1 = some x ∧ valueAt kvs 4 = some (.ref a) ∧ WishIn l (.ref a) x := by
  cases h with
  | none => exact .inl ⟨rfl, rfl⟩
  | four h => obtain ⟨a, rfl⟩ := h.isRef; exact .inr ⟨_, a, rfl, rfl, h⟩
  | seven h => exact .inl ⟨rfl, rfl⟩
  | both h _ => obtain ⟨a, rfl⟩ := h.isRef; exact .inr ⟨_, a, rfl, rfl, h⟩
theorem KvIn.get7 {l : Led} {kvs : List (Int × Value)} {d : WD} (h : KvIn l kvs d) : (d.2 = Option.none ∧ valueAt kvs 7 = Option.none) ∨ ∃ x a, d.2 = some x ∧ valueAt kvs 7 = some (.ref a) ∧ WishIn l (.ref a) x := by
  cases h with
  | none => exact .inl ⟨rfl, rfl⟩
  | four h => exact .inl ⟨rfl, rfl⟩
  | seven h => obtain ⟨a, rfl⟩ := h.isRef; exact .inr ⟨_, a, rfl, rfl, h⟩
  | both _ h => obtain ⟨a, rfl⟩ := h.isRef; exact .inr ⟨_, a, rfl, rfl, h⟩
end Mine
namespace Mine
theorem Says.weaken {w : World} {f : Addr} {dd uu : Nat} {news : Led} {vs : List Value} {P P' : Led → Value → Prop} (H : Says w f dd uu news vs P) (h : ∀ l r, P l r → P' l r) : Says w f dd uu news vs P' := by
  intro mean mg mb dp un gd cn cs a ccd cl outer A₀ base h₀ L m s Q E B F X N T hk hd hu ret
  exact H mean mg mb dp un gd cn cs a ccd cl outer A₀ base h₀ L m s Q E B F X N T hk hd hu fun r tl h' tk' F' N' o p => ret r tl h' tk' F' N' o (h _ _ p)
end Mine
namespace Mine
theorem WD.within_false {d d' : WD} {e : Int × Wish} (hq : e ∈ d'.entries) (hf : d.entryWithin e = false) : d.within d' = false := List.all_eq_false.mpr ⟨e, hq, by simp [hf]⟩
end Mine

end
section
open PySem PySem.W PyProof.Rows PySem.Spec PySem.Calls
open LCg (NsObj ns_obj lst lst_snoc Off3)
set_option maxRecDepth 100000
namespace Mine
section
variable {prog : Program} {w : World} {A : Around} {E : Value → Shared → Prop} {s : Shared} {env : Env} {h₀ : Heap} {L : Addr}
theorem ForPost.brk {J : (Str → Option Value) → Led → Prop} {I : Addr} {oI : Obj} {s₁ s₂ : Shared} {Q : Flow → Shared → Prop} (h : Q .next s₂) : ForPost h₀ L J I oI s₁ Q .brk s₂ := h
theorem ForSrcR.search {target : Expr} {body : List Stmt} {Q : Flow → Shared → Prop} {r : Addr} {a b : Int} {t u v : Tok} {n : Nat} {m₀ : Str → Option Value} {nx₀ : Led} (stored : List Str) (P : Nat → Prop)
    (hr : IsRange s.heap r a b 1 t u v) (hsm : Builtin.Range.small a b 1 = true) (hn : Builtin.Range.rangeSize a b 1 = ((n : Nat) : Int)) (hh : A.handled = none) (F : Fr h₀ env.locals s.heap m₀) (N : News h₀ env.locals s.heap nx₀) (p0 : P 0)
    (turn : ∀ (i : Nat) (tv : Tok) (tl : Led) (u : Str → Option Value) (h : Heap) (tk : Nat) (I : Addr) (oI : Obj), i < n → P i → Above nx₀ tl → (∀ p ∈ nx₀ ++ tl, p.1 ≠ I) → Fr h₀ env.locals h (fun y => if stored.contains y = true then u y else m₀ y) → News h₀ env.locals h ((I, oI) :: (nx₀ ++ tl)) →
        wpAny (model prog w) A (assign target env (.int (a + (i : Int)) tv)) (fun _ s₂ => wpAny (model prog w) A (execs body env) (ForPost h₀ env.locals (JK nx₀ stored m₀ P (i + 1)) I oI { s with heap := h, toks := tk } Q) E s₂) E { s with heap := h, toks := tk })
    (done : ∀ (tl : Led) (u : Str → Option Value) (h : Heap) (tk : Nat), P n → Above nx₀ tl → Fr h₀ env.locals h (fun y => if stored.contains y = true then u y else m₀ y) → News h₀ env.locals h (nx₀ ++ tl) → Q .next { s with heap := h, toks := tk }) :
    ForSrcR prog w A h₀ env target body Q E (.ref r) s := by
  refine ForSrcR.mk (JK nx₀ stored m₀ P) hr hsm hn hh F N ⟨⟨[], by simp, fun _ _ _ hp => nomatch hp⟩, fun _ _ => rfl, p0⟩ ?_ ?_
  · rintro i tv m nx h tk I oI hi ⟨⟨tl, rfl, ho⟩, hmm, hp⟩ off F' N'
    exact turn i tv tl m h tk I oI hi hp ho off (frame_eq hmm F') N'
  · rintro m nx h tk ⟨⟨tl, rfl, ho⟩, hmm, hp⟩ F' N'
    exact done tl m h tk hp ho (frame_eq hmm F') N'
/-- an item of a list of the ledger -/
theorem item_led {value slice : PySem.Expr} {l : Addr} {vs : List Value} {k : Int} {u : Tok} {v : Value} {Q : Value → Shared → Prop} {i : Nat}
    (hl : s.heap.IsList l vs.toArray) (hk : k = (i : Int)) (hx : vs[i]? = some v) (hz : vs.length ≤ 100000) (h : Q v s)
    (hs : subscripted slice false (.ref l) (.int k u) = operate [.ref l, .int k u] (getItem (.ref l) (.int k u)) := by with_unfolding_all rfl) :
    wpAny (model prog w) A (subscriptTail value slice (.ref l) (.int k u)) Q E s := by
  subst hk
  have hlt := (List.getElem?_eq_some_iff.mp hx).1
  exact tail_any hl.typeIs slot_list_getitem.lookup (wpAny_getItem_list hl (by omega) (by omega) (by simpa using hx) h) hs
end
end Mine
namespace Mine
noncomputable abbrev WD0 : WD := (none, none)
noncomputable def dAt (ds : List WD) (i : Nat) : WD := ds.getD i WD0
noncomputable def elderOf (ds : List WD) (p : Nat) : Option Nat := (List.range p).find? fun e => (dAt ds p).within (dAt ds e)
noncomputable def shOne (ds : List WD) (p : Nat) : List (Int × Int) := match elderOf ds p with
  | some e => [((p : Int), (e : Int))]
  | none => []
noncomputable def shUpto (ds : List WD) (k : Nat) : List (Int × Int) := (List.range k).flatMap (shOne ds)
theorem shUpto_succ (ds : List WD) (k : Nat) : shUpto ds (k + 1) = shUpto ds k ++ shOne ds k := by simp [shUpto, List.range_succ]
theorem dAt_of {ds : List WD} {i : Nat} {d : WD} (h : ds[i]? = some d) : dAt ds i = d := by unfold dAt; rw [List.getD_eq_getElem?_getD, h]; rfl
theorem find_hit {p : Nat → Bool} {k n : Nat} (h0 : ∀ e, e < k → p e = false) (hk : k < n) (h1 : p k = true) : (List.range n).find? p = some k := by
  rw [List.find?_range_eq_some]
  exact ⟨h1, by simpa using hk, fun j hj => by rw [h0 j hj]; rfl⟩
theorem find_miss {p : Nat → Bool} {n : Nat} (h0 : ∀ e, e < n → p e = false) : (List.range n).find? p = none := by
  rw [List.find?_eq_none]
  intro x hx
  rw [h0 x (List.mem_range.mp hx)]
  simp
theorem All2.at {α β : Type} {R : α → β → Prop} {as : List α} {bs : List β} (h : All2 R as bs) {i : Nat} (hi : i < as.length) : ∃ a b, as[i]? = some a ∧ bs[i]? = some b ∧ R a b := by
  obtain ⟨b, e, r⟩ := h.get (List.getElem?_eq_getElem hi)
  exact ⟨_, b, List.getElem?_eq_getElem hi, e, r⟩
end Mine
namespace Mine
theorem ne_off {I a : Addr} {o : Obj} {led : Led} (h : ∀ p ∈ led, p.1 ≠ I) (hm : (a, o) ∈ led) : I ≠ a := (h _ hm).symm
theorem ne_off' {I a : Addr} {o : Obj} {led : Led} (h : ∀ p ∈ led, p.1 ≠ I) (hm : (a, o) ∈ led) : a ≠ I := h _ hm
end Mine
namespace Mine
theorem name_led {h₀ h : Heap} {L D : Addr} {o : Obj} {led : Led} (_ : News h₀ L h ((D, o) :: led)) : ∃ D9, D9 = D := ⟨D, rfl⟩
end Mine
namespace Mine
/-- the numbers of the one that are none of the other's -/
noncomputable def without (xs ys : List Int) : List Int := xs.filter fun n => !(ys.any (· == n))
noncomputable abbrev Lots := List Int × List Int
noncomputable def lotOf (l : Lots) (i : Nat) : List Int := if i = 0 then l.1 else l.2
noncomputable def lotsIn (l l' : Lots) (i : Nat) : Bool := without (lotOf l i) (lotOf l' i) != []
noncomputable def lotsWithin (l l' : Lots) : Bool := ((upto 2).filter fun i => lotsIn l l' i.toNat) == []
theorem LotIn.at {led : Led} {v : Value} {l : Lots} (h : LotIn led v l) : ∃ (a : Addr) (n : Nat) (vs : List Value), v = .ref a ∧ (a, listOf vs.toArray n) ∈ led ∧ vs.length = 2 ∧ ∀ i, i < 2 → ∃ (b : Addr) (k : Nat) (ws : List Value), vs[i]? = some (.ref b) ∧ (b, listOf ws.toArray k) ∈ led ∧ IntsAre ws (lotOf l i) := by
  obtain ⟨a, n, x, y, rfl, hm, ⟨b, k, ws, rfl, hb, hw⟩, ⟨b', k', ws', rfl, hb', hw'⟩⟩ := h
  refine ⟨a, n, [.ref b, .ref b'], rfl, hm, rfl, fun i hi => ?_⟩
  match i, hi with
  | 0, _ => exact ⟨b, k, ws, rfl, hb, hw⟩
  | 1, _ => exact ⟨b', k', ws', rfl, hb', hw'⟩
end Mine
namespace Mine
theorem beq_dec (a b : List Int) : (a == b) = decide (a = b) := by
  cases h : a == b
  · rw [decide_eq_false (beq_eq_false_iff_ne.mp h)]
  · rw [decide_eq_true (eq_of_beq h)]
end Mine
namespace Mine
/-- what holds of a value over the part n0 of the old ledger and what is new -/
noncomputable def TPost (news n0 : Led) (R : Led → Value → Prop) (l : Led) (r : Value) : Prop := ∀ tl, l = news ++ tl → R (n0 ++ tl) r
theorem TPost.mk {news n0 tl : Led} {R : Led → Value → Prop} {r : Value} (h : R (n0 ++ tl) r) : TPost news n0 R (news ++ tl) r := fun tl' e => List.append_cancel_left e ▸ h
theorem TPost.get {news n0 tl : Led} {R : Led → Value → Prop} {r : Value} (h : TPost news n0 R (news ++ tl) r) : R (n0 ++ tl) r := h tl rfl
theorem IntsIn.tl {news : Led} {r : Value} {ns : List Int} {l : Led} (h : IntsIn l r ns ∧ Fresh news r) : TPost news [] (fun l r => IntsIn l r ns) l r := by
  rintro tl rfl
  obtain ⟨⟨a, n, vs, rfl, hm, hi⟩, hf⟩ := h
  exact ⟨a, n, vs, rfl, hf.tl hm, hi⟩
end Mine
namespace Mine
noncomputable def WD.lots (d : WD) : Lots := (d.lot4, d.lot7)
end Mine
namespace Mine
noncomputable def natInts (l : List Nat) : List Int := l.map fun n : Nat => (n : Int)
noncomputable def keysOf (d : WD) : List Int := d.entries.map (·.1)
noncomputable def fieldsIn (d' d : WD) : Bool := ((keysOf d').filter fun k => !((keysOf d).any (· == k))) == []
noncomputable def elder1 (ds : List WD) (p : Nat) : List Nat := (List.range p).filter fun e => fieldsIn (dAt ds e) (dAt ds p)
noncomputable def elder2 (ds : List WD) (p : Nat) : List Nat := (elder1 ds p).filter fun e => lotsWithin (dAt ds p).lots (dAt ds e).lots
noncomputable def dueOne (ds : List WD) (p : Nat) : List (Int × Int) := ((elder2 ds p).take 1).map fun e : Nat => ((p : Int), (e : Int))
noncomputable def dueUpto (ds : List WD) (k : Nat) : List (Int × Int) := (List.range k).flatMap (dueOne ds)
theorem dueUpto_succ (ds : List WD) (k : Nat) : dueUpto ds (k + 1) = dueUpto ds k ++ dueOne ds k := by simp [dueUpto, List.range_succ]
theorem KvIn.keys {l : Led} {kvs : List (Int × Value)} {d : WD} (h : KvIn l kvs d) : kvs.map Prod.fst = keysOf d := by cases h <;> rfl
theorem KvIn.has {l : Led} {kvs : List (Int × Value)} {d : WD} (h : KvIn l kvs d) (k : Int) : (valueAt kvs k).isSome = (keysOf d).any (· == k) := by
  cases h with
  | none => rfl
  | four _ =>
    by_cases h4 : (4 : Int) = k
    · subst h4; rfl
    · simp [valueAt, keysOf, WD.entries, h4]
  | seven _ =>
    by_cases h4 : (7 : Int) = k
    · subst h4; rfl
    · simp [valueAt, keysOf, WD.entries, h4]
  | both _ _ =>
    by_cases h4 : (4 : Int) = k
    · subst h4; rfl
    · by_cases h7 : (7 : Int) = k
      · subst h7; rfl
      · simp [valueAt, keysOf, WD.entries, h4, h7]
theorem nums_small (d : Wish) (bits : Nat) (h : bits ≤ 8) : (d.nums bits).length ≤ 256 := Nat.le_trans (List.length_filter_le _ _) (by simpa [upto] using pow_le256 h)
theorem WD.lots_len (d : WD) (i : Nat) : (lotOf d.lots i).length ≤ 256 := by
  unfold lotOf WD.lots WD.lot4 WD.lot7
  split
  · dsimp only
    split
    · exact nums_small _ 3 (by decide)
    · decide
  · dsimp only
    split
    · exact nums_small _ 8 (by decide)
    · decide
theorem filter_take_snocN {l : List Nat} {i n : Nat} (p : Nat → Bool) (h : l[i]? = some n) : (l.take (i + 1)).filter p = (l.take i).filter p ++ (if p n then [n] else []) := by
  rw [List.take_add_one, h, List.filter_append]
  cases hp : p n <;> simp [hp]
theorem natInts_get {vs : List Value} {l : List Nat} (h : IntsAre vs (natInts l)) {i : Nat} {v : Value} (e : vs[i]? = some v) : ∃ (n : Nat) (t : Tok), v = .int (n : Int) t ∧ l[i]? = some n := by
  obtain ⟨n, t, rfl, hn⟩ := IntsAre_get h e
  unfold natInts at hn
  rw [List.getElem?_map] at hn
  obtain ⟨k, hk, rfl⟩ := Option.map_eq_some_iff.mp hn
  exact ⟨k, t, rfl, hk⟩
theorem natInts_snoc {vs : List Value} {l : List Nat} {n : Nat} {t : Tok} (h : IntsAre vs (natInts l)) : IntsAre (vs ++ [.int (n : Int) t]) (natInts (l ++ [n])) := by
  unfold natInts
  rw [List.map_append]
  exact IntsAre_snoc h
/-- the loop of _law_shadows_right -/
inductive EJ (cp : Addr) (NX : Led) (ds : List WD) (m₀ : Str → Option Value) (i : Nat) (m : Str → Option Value) (nx : Led) : Prop
  | of9 : ∀ (oP : Obj) (z : Option Value) (dA : Addr) (wsn : Nat) (ws : List Value) (tl : Led), (nx = (cp, oP) :: (NX ++ tl)) → (oP.data = .cell z) → (∀ p ∈ NX ++ tl, p.1 ≠ cp) → (Above NX tl) → (m (Str.ofString "due") = some (.ref dA)) → ((dA, listOf ws.toArray wsn) ∈ NX ++ tl) → (All2 (PairIn (NX ++ tl)) ws (dueUpto ds i)) → (ws.length ≤ i) → (∀ z, z ≠ Str.ofString "elder" → z ≠ Str.ofString "due" → m z = m₀ z) → EJ cp NX ds m₀ i m nx
end Mine
namespace Mine
theorem name_cells {h₀ h : Heap} {L : Addr} {e1 e3 e4 : Addr × Obj} {l c1 c2 c3 : Addr} {o o1 o2 o3 : Obj} {led : Led} (_ : News h₀ L h (e1 :: (l, o) :: e3 :: e4 :: (c1, o1) :: (c2, o2) :: (c3, o3) :: led)) :
    ∃ l9 p1 p2 p3, l9 = l ∧ p1 = o1 ∧ p2 = o2 ∧ p3 = o3 := ⟨l, o1, o2, o3, rfl, rfl, rfl, rfl⟩
end Mine
namespace Mine
theorem name_fr {h₀ h : Heap} {L : Addr} {m : Str → Option Value} (_ : Fr h₀ L h m) : ∃ M, M = m := ⟨m, rfl⟩
end Mine

end
section
open PySem PySem.W PyProof.Rows PySem.Spec PySem.Calls
open LCg (NsObj ns_obj lst lst_snoc Off3 range_walks range_st)
set_option maxRecDepth 100000
namespace Mine
noncomputable abbrev cell0 : Obj := { cls := .type "cell", data := .cell none }
section
variable {prog : Program} {w : World} {A : Around} {s : Shared} {h₀ : Heap} {L : Addr} {m : Str → Option Value} {env cenv : Env}
/-- the frame of a comprehension one of whose names is a cell -/
theorem newEnv_x {M : Model} {scope : Scope} {globals : Addr} {cl : List (Str × Addr)} {qual : Str} {x : Str} {Q : Env → Shared → Prop} {E : Value → Shared → Prop}
    (hcf : ∀ n acc, cellsFrom n scope.names acc = (x, n) :: acc) (hpc : ∀ h, pushCells h scope.names = h.push cell0)
    (h : Q (newEnv scope s.heap.objs.size globals ((x, s.heap.objs.size + 1) :: cl) qual none .none (some env) builtinsNs) { s with heap := (s.heap.push { cls := .type "dict", data := .dict #[] }).push cell0 }) :
    wpAny M A (newFunctionEnv scope globals cl [] qual none .none (some env)) Q E s := by
  simp only [newFunctionEnv, Option.isSome_some, if_true]
  refine wpAny_bind (wpAny_alloc ?_)
  refine wpAny_bind (wpAny_layCells _ (fun name kind cells => by cases hkc : kind == NameKind.cell <;> simp [hkc]) _ _ _ _ ?_)
  rw [hcf, hpc, show ({ s with heap := s.heap.push { cls := .type "dict", data := .dict #[] } } : Shared).heap.objs.size = s.heap.objs.size + 1 from Heap.size_push ..]
  rw [List.forIn_nil]
  exact wpAny_bind (wpAny_pure (wpAny_pure h))

/-- the state of a comprehension over the ledger nx₀ beside its cell -/
inductive CJX (c : Addr) (nx₀ : Led) (P : Nat → List Value → Led → Prop) (i : Nat) (ys : List Value) (nx : Led) : Prop
  | of9 : ∀ tl oc z, (nx = (c, oc) :: (nx₀ ++ tl)) → (oc.data = .cell z) → (∀ p ∈ nx₀ ++ tl, p.1 ≠ c) → (Above nx₀ tl) → (P i ys (nx₀ ++ tl)) → CJX c nx₀ P i ys nx

theorem comp_coreX {elt target iter : Expr} {ifs : List Expr} {gs : List Comprehension} {scope : Scope} {pos : Pos} {cl : List (Str × Addr)} {x : Str} {s₂ : Shared} {I : Addr} {fp : List Addr} {n : Nat} {PV : Nat → Value → Prop} {St : Nat → Heap → Prop} {S : Led → Prop} {cn : String} {nx₀ : Led} {E : Value → Shared → Prop}
    {RR : Value → Addr → Result → Shared → Prop} (P : Nat → List Value → Led → Prop)
    (hcf : ∀ n acc, cellsFrom n scope.names acc = (x, n) :: acc) (hpc : ∀ h, pushCells h scope.names = h.push cell0)
    (hga : ∀ g', gs[0]? = some g' → g'.is_async = 0) (W : Walks prog w A I fp [I] n PV St) (hIo : ∀ i h, St i h → ∃ o, h.get? I = some o ∧ o.cls = .type cn)
    (hcn : ["enumerate", "zip", "dict_itemiterator", "dict_reverseitemiterator", "odict_iterator", "itertools.zip_longest", "itertools.pairwise"].contains cn = false)
    (hSt : ∀ i h h' o nw, St i h → h.get? I = some o → h'.get? I = some o → (∀ b o, h₀.get? b = some o → h'.get? b = some o) → News h₀ L h' nw → S nw → St i h')
    (hst : St 0 s₂.heap) (hfp : ∀ b ∈ fp, b < s₂.heap.objs.size)
    (F : Fr h₀ L s₂.heap m) (N : News h₀ L s₂.heap nx₀) (hIL : L ≠ I) (hI₀ : h₀.get? I = none) (off : ∀ p ∈ nx₀, p.1 < I) (hS : ∀ c oc tl, S ((c, oc) :: (nx₀ ++ tl))) (p0 : P 0 [] nx₀)
    (turn : ∀ (i : Nat) (v : Value) (ys : List Value) (tl : Led) (h : Heap) (tk : Nat) (oI oC oc : Obj) (z : Option Value) (C D c : Addr) (mC : Str → Option Value), i < n → PV i v → P i ys (nx₀ ++ tl) → Above nx₀ tl → Below3 nx₀ I C D → (∀ q ∈ nx₀, q.1 < c) → oc.data = .cell z → Off3 I C D ((c, oc) :: (nx₀ ++ tl)) → (∀ p ∈ nx₀ ++ tl, p.1 ≠ c) → Trip I C D → Fr h₀ L h m → NsObj oC mC → News h₀ L h ((I, oI) :: (C, oC) :: (D, lst ys) :: (c, oc) :: (nx₀ ++ tl)) →
      CTurn prog w A h₀ L m (compEnvC scope ((x, c) :: cl) C env) elt target ifs (⟨target, iter, ifs, 0⟩ :: gs) scope pos 0 I oI C D (CJX c nx₀ P (i + 1)) v { s₂ with heap := h, toks := tk })
    (hRR : ∀ D C h tk m' ys tl oC, P n ys (nx₀ ++ tl) → Above nx₀ tl → (∀ q ∈ nx₀, q.1 < D) → Fr h₀ L h m → News h₀ L h ((D, lst ys) :: (nx₀ ++ tl)) → NsObj oC m' → h.get? C = some oC → h₀.get? C = none → C ≠ L → C ≠ D → (∀ p ∈ nx₀ ++ tl, p.1 ≠ C ∧ p.1 ≠ D) → RR (.ref D) C (.ok .next) { s₂ with heap := h, toks := tk }) :
    wpAny (model prog w) A (newList []) (fun acc s₃ => wpAny (model prog w) A (newFunctionEnv scope env.globals cl [] env.qual none .none (some env)) (fun cenv s₄ =>
      codeAny (model prog w) A (.compStart (.ListComp elt (⟨target, iter, ifs, 0⟩ :: gs) scope pos) 0 (.ref I) acc { cenv with scope := relabel scope env }) (RR acc cenv.locals) s₄) E s₃) E s₂ := by
  refine wpAny_newObj_type (newEnv_x hcf hpc ?_)
  dsimp only
  generalize hH2 : s₂.heap.push { cls := .type "list", dict := none, data := .seq ([] : List Value).toArray } = H2
  generalize hH3 : H2.push { cls := .type "dict", data := .dict #[] } = H3
  generalize hH4 : H3.push cell0 = H4
  have hC : H2.objs.size = s₂.heap.objs.size + 1 := by rw [← hH2, Heap.size_push]
  have hc : H3.objs.size = s₂.heap.objs.size + 2 := by rw [← hH3, Heap.size_push, hC]
  have d1 : ¬ (H2.objs.size = s₂.heap.objs.size) := by omega
  have d2 : ¬ (H3.objs.size = H2.objs.size) := by omega
  have d3 : ¬ (H3.objs.size = s₂.heap.objs.size) := by omega
  have hlt : ∀ b, b < s₂.heap.objs.size → b ≠ s₂.heap.objs.size ∧ b ≠ H2.objs.size ∧ b ≠ H3.objs.size := fun b hb => ⟨by omega, by omega, by omega⟩
  have hIlt : I < s₂.heap.objs.size := hfp I (W.sub I (List.mem_singleton.mpr rfl))
  have up2 : ∀ b o, s₂.heap.get? b = some o → H2.get? b = some o := fun b o e => hH2 ▸ Heap.get?_push_of_some _ e
  have up3 : ∀ b o, H2.get? b = some o → H3.get? b = some o := fun b o e => hH3 ▸ Heap.get?_push_of_some _ e
  have up4 : ∀ b o, H3.get? b = some o → H4.get? b = some o := fun b o e => hH4 ▸ Heap.get?_push_of_some _ e
  have old : ∀ b o, s₂.heap.get? b = some o → H4.get? b = some o := fun b o e => up4 b o (up3 b o (up2 b o e))
  have hacc : H4.get? s₂.heap.objs.size = some (lst []) := up4 _ _ (up3 _ _ (hH2 ▸ Heap.get?_push_size _ rfl))
  have heC : H4.get? H2.objs.size = some { cls := .type "dict", data := .dict #[] } := up4 _ _ (hH3 ▸ Heap.get?_push_size _ rfl)
  have hec : H4.get? H3.objs.size = some cell0 := hH4 ▸ Heap.get?_push_size _ rfl
  have hns : H4.Ns H2.objs.size (fun _ => none) := (hH3 ▸ Heap.Ns.new H2 (.type "dict") : H3.Ns H2.objs.size (fun _ => none)).keeps up4
  obtain ⟨oC₀, heC', hoC⟩ := ns_obj hns
  have hst₁ : St 0 H4 := W.frame _ _ _ hst fun b _ o e => old b o e
  have fresh₀ : ∀ a, s₂.heap.objs.size ≤ a → h₀.get? a = none := fun a ha => by
    cases e : h₀.get? a with
    | none => rfl
    | some o' => exact absurd (Heap.lt_size (F.keep a o' e)) (Nat.not_lt.mpr ha)
  have hD₀ : h₀.get? s₂.heap.objs.size = none := fresh₀ _ (Nat.le_refl _)
  have hC₀ : h₀.get? H2.objs.size = none := fresh₀ _ (Nat.le_of_lt (Nat.lt_of_lt_of_eq (Nat.lt_succ_self _) hC.symm))
  have hc₀ : h₀.get? H3.objs.size = none := fresh₀ _ (Nat.le_of_lt (Nat.lt_of_lt_of_eq (Nat.lt_succ_of_lt (Nat.lt_succ_self _)) hc.symm))
  have hLlt : L < s₂.heap.objs.size := F.ns.lt
  have hDL : s₂.heap.objs.size ≠ L := Ne.symm (hlt L hLlt).1
  have hCL : H2.objs.size ≠ L := Ne.symm (hlt L hLlt).2.1
  have hcL : H3.objs.size ≠ L := Ne.symm (hlt L hLlt).2.2
  have hne : Trip I H2.objs.size s₂.heap.objs.size := ⟨(hlt I hIlt).2.1, (hlt I hIlt).1, d1⟩
  have hnx : ∀ p ∈ nx₀, p.1 < s₂.heap.objs.size := fun p hp => Heap.lt_size (N p hp).1
  have off₀ : Off3 I H2.objs.size s₂.heap.objs.size ((H3.objs.size, cell0) :: (nx₀ ++ [])) := Off3.of fun p hp => by
    rcases List.mem_cons.mp hp with rfl | hp
    · exact ⟨Ne.symm (hlt I hIlt).2.2, d2, d3⟩
    · rw [List.append_nil] at hp
      exact ⟨Nat.ne_of_lt (off p hp), (hlt _ (hnx p hp)).2.1, (hlt _ (hnx p hp)).1⟩
  have b3 : Below3 nx₀ I H2.objs.size s₂.heap.objs.size := fun p hp => ⟨off p hp, Nat.lt_of_lt_of_eq (Nat.lt_succ_of_lt (hnx p hp)) hC.symm, hnx p hp⟩
  have bc : ∀ q ∈ nx₀, q.1 < H3.objs.size := fun q hq => Nat.lt_of_lt_of_eq (Nat.lt_succ_of_lt (Nat.lt_succ_of_lt (hnx q hq))) hc.symm
  have F₁ : Fr h₀ L H4 m := F.keeps old
  have N₁ : News h₀ L H4 ((H2.objs.size, oC₀) :: (s₂.heap.objs.size, lst []) :: (H3.objs.size, cell0) :: (nx₀ ++ [])) := fun p hp => by
    rcases List.mem_cons.mp hp with rfl | hp
    · exact ⟨heC', hCL, hC₀⟩
    rcases List.mem_cons.mp hp with rfl | hp
    · exact ⟨hacc, hDL, hD₀⟩
    rcases List.mem_cons.mp hp with rfl | hp
    · exact ⟨hec, hcL, hc₀⟩
    · rw [List.append_nil] at hp
      exact ⟨old _ _ (N p hp).1, (N p hp).2⟩
  have loop : ∀ s₃ : Shared, s₃ = { s₂ with heap := H4 } →
      codeAny (model prog w) A (.compLoop (.ListComp elt (⟨target, iter, ifs, 0⟩ :: gs) scope pos) 0 (.ref I) (.ref s₂.heap.objs.size) (compEnvC scope ((x, H3.objs.size) :: cl) H2.objs.size env))
        (RR (.ref s₂.heap.objs.size) H2.objs.size) s₃ := by
    rintro s₃ rfl
    refine comp_level (S := S) (cn := cn) (elt := elt) (scope := scope) (pos := pos) rfl hga W hIo hcn hSt hst₁ F₁ hoC N₁ hIL hI₀ off₀ hne (CJX H3.objs.size nx₀ P) ⟨[], cell0, none, rfl, rfl, (fun p hp => by rw [List.append_nil] at hp; exact Nat.ne_of_lt (bc p hp)), ktn_ord0, by rw [List.append_nil]; exact p0⟩ ?_ ?_ ?_
    · rintro i ys nx ⟨tl, oc, z, rfl, _⟩
      exact hS _ _ tl
    · rintro i v ys nx h tk oI oC mC hi hP ⟨tl, oc, z, rfl, hz, hoc, ha, hp⟩ off' F' hC' N'
      exact turn i v ys tl h tk oI oC oc z _ _ _ mC hi hP hp ha b3 bc hz off' hoc hne F' hC' N'
    · rintro ys nx h tk oC mC ⟨tl, oc, z, rfl, hz, hoc, ha, hp⟩ off' F' hC' N'
      exact hRR _ _ h tk mC ys tl oC hp ha (fun q hq => (b3 q hq).2.2) F' (fun p hp => N' p (by simp only [List.mem_cons] at hp ⊢; rcases hp with h | h <;> simp [h])) hC' (N' _ (.head _)).1 hC₀ hCL d1 (fun p hp => (off'.mem p (.tail _ hp)).2)
  have e3 : H2.objs.size + 1 = H3.objs.size := by omega
  rw [e3]
  exact codeAny_compStart_list (loop _ rfl) (W.self 0 _ _ _ hst₁ (loop _ rfl))

theorem CSrc.rangeX {elt target iter : Expr} {ifs : List Expr} {gs : List Comprehension} {scope : Scope} {pos : Pos} {cl : List (Str × Addr)} {x : Str} {r : Addr} {a b : Int} {t u v : Tok} {n : Nat} {nx₀ : Led} {E : Value → Shared → Prop} {K : Addr → List Value → Led → Shared → Prop} (P : Nat → List Value → Led → Prop)
    (hr : IsRange s.heap r a b 1 t u v) (hsm : Builtin.Range.small a b 1 = true) (hn : Builtin.Range.rangeSize a b 1 = ((n : Nat) : Int)) (hh : A.handled = none) (F : Fr h₀ L s.heap m) (N : News h₀ L s.heap nx₀)
    (hcf : ∀ n acc, cellsFrom n scope.names acc = (x, n) :: acc) (hpc : ∀ h, pushCells h scope.names = h.push cell0) (hga : ∀ g', gs[0]? = some g' → g'.is_async = 0) (p0 : P 0 [] nx₀)
    (turn : ∀ (i : Nat) (tv : Tok) (ys : List Value) (tl : Led) (h : Heap) (tk : Nat) (I : Addr) (oI oC oc : Obj) (z : Option Value) (C D c : Addr) (mC : Str → Option Value), i < n → P i ys (nx₀ ++ tl) → Above nx₀ tl → Below3 nx₀ I C D → (∀ q ∈ nx₀, q.1 < c) → oc.data = .cell z → Off3 I C D ((c, oc) :: (nx₀ ++ tl)) → (∀ p ∈ nx₀ ++ tl, p.1 ≠ c) → Trip I C D → Fr h₀ L h m → NsObj oC mC → News h₀ L h ((I, oI) :: (C, oC) :: (D, lst ys) :: (c, oc) :: (nx₀ ++ tl)) →
      CTurn prog w A h₀ L m (compEnvC scope ((x, c) :: cl) C env) elt target ifs (⟨target, iter, ifs, 0⟩ :: gs) scope pos 0 I oI C D (CJX c nx₀ P (i + 1)) (.int (a + (i : Int)) tv) { s with heap := h, toks := tk })
    (done : ∀ (D : Addr) (ys : List Value) (tl : Led) (h : Heap) (tk : Nat), P n ys (nx₀ ++ tl) → Above nx₀ tl → (∀ q ∈ nx₀, q.1 < D) → K D ys (nx₀ ++ tl) { s with heap := h, toks := tk }) :
    CSrc prog w A h₀ L m env elt target iter ifs gs scope pos cl E K (.ref r) s := by
  intro RR hR
  refine wpAny_pyIter_range hr hsm ?_
  refine comp_coreX (cn := "range_iterator") (S := fun _ => True) P hcf hpc hga (range_walks hh a n) (fun i h st => ⟨_, st, rfl⟩) (by decide) range_st (by show IsRangeIter _ _ _ _ _; rw [hn]; simpa using Heap.get?_push_size _ rfl) (fun b hb => ?_)
    (F.keeps fun _ _ e => Heap.get?_push_of_some _ e) (N.grown fun _ _ e => Heap.get?_push_of_some _ e) (Nat.ne_of_lt F.ns.lt) (next_is_new F) (fun p hp => Heap.lt_size (N p hp).1) (fun _ _ tl => trivial) p0 ?_ ?_
  · rw [List.mem_singleton.mp hb]
    show s.heap.objs.size < (s.heap.push _).objs.size
    rw [Heap.size_push]; exact Nat.lt_succ_self _
  · rintro i v ys tl h tk oI oC oc z C D c mC hi ⟨tv, rfl⟩ hp ha b3 bc hz off hoc tr F' hC N'
    exact turn i tv ys tl h tk _ oI oC oc z C D c mC hi hp ha b3 bc hz off hoc tr F' hC N'
  · intro D C h tk m' ys tl oC hp ha hD F' N' hC e e0 n1 n2 o1
    exact hR D C _ m' ys _ oC ⟨h, tk, rfl⟩ F' N' hC e e0 n1 n2 o1 (done D ys tl h tk hp ha hD)
end
end Mine
namespace Mine
section
variable {prog : Program} {w : World} {A : Around} {s s₁ : Shared} {h₀ : Heap} {L : Addr} {m : Str → Option Value} {env : Env} {E : Value → Shared → Prop} {scope : Scope} {cl : List (Str × Addr)} {I C D c : Addr} {oI oC oc : Obj} {z : Option Value} {ys : List Value} {nx nx₀ tl tl' led : Led} {mC : Str → Option Value}
theorem assign_compX {x : Str} {px : Pos} {v : Value} {Q : Unit → Shared → Prop} (hkind : scope.kind = .function) (hx : (compEnvC scope ((x, c) :: cl) C env).kindOf x = some .cell) (tr : Trip I C D) (off : Off3 I C D ((c, oc) :: nx)) (offc : ∀ p ∈ nx, p.1 ≠ c) (hz : oc.data = .cell z) (F : Fr h₀ L s.heap m) (N : News h₀ L s.heap ((I, oI) :: (C, oC) :: (D, lst ys) :: (c, oc) :: nx))
    (h : ∀ h' oc', oc'.data = .cell (some v) → Fr h₀ L h' m → Off3 I C D ((c, oc') :: nx) → News h₀ L h' ((I, oI) :: (C, oC) :: (D, lst ys) :: (c, oc') :: nx) → Q () { s with heap := h' }) :
    wpAny (model prog w) A (assign (.Name x px) (compEnvC scope ((x, c) :: cl) C env) v) Q E s := by
  have zc := N (c, oc) (.tail _ (.tail _ (.tail _ (.head _))))
  have oc3 := off.mem _ (List.mem_cons_self)
  refine wpAny_assign_Name (wpAny_storeName_cell (c := c) (v₀ := z) (by show (relabel scope env).kind = .function; exact hkind) hx (by simp [compEnvC]) ⟨oc, zc.1, hz⟩ fun h' hv hs => ?_)
  obtain ⟨oc', hoc', hd'⟩ := hv
  have keep : ∀ p : Addr × Obj, p.1 ≠ c → s.heap.get? p.1 = some p.2 → h'.get? p.1 = some p.2 := fun p hne e => hs.extBut _ _ hne e
  refine h h' oc' hd' (F.change hs zc.2.1 zc.2.2) (Off3.of fun p hp => ?_) fun p hp => ?_
  · rcases List.mem_cons.mp hp with rfl | hp
    · exact oc3
    · exact off.mem p (.tail _ hp)
  · rcases List.mem_cons.mp hp with rfl | hp
    · have q := N (I, oI) (.head _); exact ⟨keep _ (Ne.symm oc3.1) q.1, q.2⟩
    rcases List.mem_cons.mp hp with rfl | hp
    · have q := N (C, oC) (.tail _ (.head _)); exact ⟨keep _ (Ne.symm oc3.2.1) q.1, q.2⟩
    rcases List.mem_cons.mp hp with rfl | hp
    · have q := N (D, lst ys) (.tail _ (.tail _ (.head _))); exact ⟨keep _ (Ne.symm oc3.2.2) q.1, q.2⟩
    rcases List.mem_cons.mp hp with rfl | hp
    · exact ⟨hoc', zc.2⟩
    · have q := N p (.tail _ (.tail _ (.tail _ (.tail _ hp)))); exact ⟨keep _ (offc p hp) q.1, q.2⟩
theorem CTurn.filterX {elt iter ct : Expr} {x : Str} {px pos : Pos} {v : Value} {J : List Value → Led → Prop} (hkind : scope.kind = .function) (hx : (compEnvC scope ((x, c) :: cl) C env).kindOf x = some .cell) (tr : Trip I C D) (off : Off3 I C D ((c, oc) :: nx)) (offc : ∀ p ∈ nx, p.1 ≠ c) (hz : oc.data = .cell z) (F : Fr h₀ L s.heap m) (N : News h₀ L s.heap ((I, oI) :: (C, oC) :: (D, lst ys) :: (c, oc) :: nx))
    (h : ∀ h' oc' tk (E' : Value → Shared → Prop), oc'.data = .cell (some v) → Fr h₀ L h' m → Off3 I C D ((c, oc') :: nx) → News h₀ L h' ((I, oI) :: (C, oC) :: (D, lst ys) :: (c, oc') :: nx) →
      wpAny (model prog w) A (isTrue ct (compEnvC scope ((x, c) :: cl) C env) (eval ct (compEnvC scope ((x, c) :: cl) C env))) (fun ok s₃ => if ok = true then wpAny (model prog w) A (eval elt (compEnvC scope ((x, c) :: cl) C env)) (CEndY h₀ L m I oI C D J s) E' s₃ else CEnd h₀ L m I oI C D J s s₃) E' { s with heap := h', toks := tk }) :
    CTurn prog w A h₀ L m (compEnvC scope ((x, c) :: cl) C env) elt (.Name x px) [ct] [⟨.Name x px, iter, [ct], 0⟩] scope pos 0 I oI C D J v s := by
  intro E'
  refine assign_compX hkind hx tr off offc hz F N fun h' oc' hd' F' off' N' => wpAny_tests_one (wpAny_mono (h h' oc' _ E' hd' F' off' N') (fun ok s₃ h₃ => ?_) fun _ _ e => e)
  cases ok with
  | false => exact h₃
  | true => exact emit_last rfl tr h₃
/-- the end of a turn: the ledger grew by tl' -/
theorem CEndX.off {oc' : Obj} (off : Off3 I C D ((c, oc) :: (nx₀ ++ tl))) (h : ∀ p ∈ tl', p.1 ≠ I ∧ p.1 ≠ C ∧ p.1 ≠ D) : Off3 I C D ((c, oc') :: (nx₀ ++ (tl ++ tl'))) := Off3.of fun p hp => by
  rcases List.mem_cons.mp hp with rfl | hp
  · have := off.mem (c, oc) (.head _)
    exact this
  rw [← List.append_assoc] at hp
  rcases List.mem_append.mp hp with hp | hp
  · exact off.mem p (.tail _ hp)
  · exact h p hp
theorem CEndY.mkX {h' : Heap} {tk : Nat} {m' : Str → Option Value} {oC' oc' : Obj} {z' : Option Value} {P : Nat → List Value → Led → Prop} {i : Nat} {y : Value} (F : Fr h₀ L h' m) (hC : NsObj oC' m') (N : News h₀ L h' led) (sub : ∀ p ∈ (I, oI) :: (C, oC') :: (D, lst ys) :: (c, oc') :: (nx₀ ++ (tl ++ tl')), p ∈ led) (off : Off3 I C D ((c, oc) :: (nx₀ ++ tl))) (offc : ∀ p ∈ nx₀ ++ tl, p.1 ≠ c) (hz : oc'.data = .cell z') (o1 : Above nx₀ tl)
    (o2 : ∀ q ∈ (I, oI) :: (C, oC') :: (D, lst ys) :: (c, oc') :: nx₀, ∀ p ∈ tl', q.1 < p.1) (hl : ys.length ≤ sizeLine) (hp : P (i + 1) (ys ++ [y]) (nx₀ ++ (tl ++ tl'))) : CEndY h₀ L m I oI C D (CJX c nx₀ P (i + 1)) s₁ y { s₁ with heap := h', toks := tk } :=
  ⟨h', tk, ys, (c, oc') :: (nx₀ ++ (tl ++ tl')), oC', m', rfl, F, hC, fun p hp => N p (sub p hp), CEndX.off off fun p hp => ⟨Nat.ne_of_gt (o2 _ (.head _) p hp), Nat.ne_of_gt (o2 _ (.tail _ (.head _)) p hp), Nat.ne_of_gt (o2 _ (.tail _ (.tail _ (.head _))) p hp)⟩, hl,
    tl ++ tl', oc', z', rfl, hz, (fun p hp => by
      rw [← List.append_assoc] at hp
      rcases List.mem_append.mp hp with hp | hp
      · exact offc p hp
      · exact Nat.ne_of_gt (o2 _ (.tail _ (.tail _ (.tail _ (.head _)))) p hp)), ord_app o1 (ord_sub o2 fun _ h => .tail _ (.tail _ (.tail _ (.tail _ h)))), hp⟩
theorem CEnd.mkX {h' : Heap} {tk : Nat} {m' : Str → Option Value} {oC' oc' : Obj} {z' : Option Value} {P : Nat → List Value → Led → Prop} {i : Nat} (F : Fr h₀ L h' m) (hC : NsObj oC' m') (N : News h₀ L h' led) (sub : ∀ p ∈ (I, oI) :: (C, oC') :: (D, lst ys) :: (c, oc') :: (nx₀ ++ (tl ++ tl')), p ∈ led) (off : Off3 I C D ((c, oc) :: (nx₀ ++ tl))) (offc : ∀ p ∈ nx₀ ++ tl, p.1 ≠ c) (hz : oc'.data = .cell z') (o1 : Above nx₀ tl)
    (o2 : ∀ q ∈ (I, oI) :: (C, oC') :: (D, lst ys) :: (c, oc') :: nx₀, ∀ p ∈ tl', q.1 < p.1) (hp : P (i + 1) ys (nx₀ ++ (tl ++ tl'))) : CEnd h₀ L m I oI C D (CJX c nx₀ P (i + 1)) s₁ { s₁ with heap := h', toks := tk } :=
  ⟨h', tk, ys, (c, oc') :: (nx₀ ++ (tl ++ tl')), oC', m', rfl, F, hC, fun p hp => N p (sub p hp), CEndX.off off fun p hp => ⟨Nat.ne_of_gt (o2 _ (.head _) p hp), Nat.ne_of_gt (o2 _ (.tail _ (.head _)) p hp), Nat.ne_of_gt (o2 _ (.tail _ (.tail _ (.head _))) p hp)⟩,
    tl ++ tl', oc', z', rfl, hz, (fun p hp => by
      rw [← List.append_assoc] at hp
      rcases List.mem_append.mp hp with hp | hp
      · exact offc p hp
      · exact Nat.ne_of_gt (o2 _ (.tail _ (.tail _ (.tail _ (.head _)))) p hp)), ord_app o1 (ord_sub o2 fun _ h => .tail _ (.tail _ (.tail _ (.tail _ h)))), hp⟩
end
end Mine

end
section
open PySem PySem.W PyProof.Rows PySem.Spec PySem.Calls
open LCg (NsObj ns_obj lst lst_snoc Off3 range_walks range_st)
set_option maxRecDepth 100000
namespace Mine
noncomputable abbrev pairD (d : Int × Int) : PyData := .tuple [.int d.1, .int d.2]
theorem pd_canLay : ∀ ds : List (Int × Int), PyData.canLayAll0 (ds.map pairD) = true
  | [] => rfl
  | _ :: r => by simp [PyData.canLayAll0, PyData.canLay0, pd_canLay r]
theorem pd_depth : ∀ ds : List (Int × Int), PyData.depthAll (ds.map pairD) ≤ 1
  | [] => by simp [PyData.depthAll]
  | _ :: r => by
    have := pd_depth r
    simp only [List.map_cons, PyData.depthAll, PyData.depth]
    omega
theorem pd_shaped (ds : List (Int × Int)) : SeqAt.shaped (.list (ds.map pairD)) = true := by
  have := pd_depth ds
  simp only [SeqAt.shaped, PyData.canLay0, PyData.depth, pd_canLay, Bool.true_and]
  exact decide_eq_true (by omega)
theorem pd_eqv : ∀ ds es : List (Int × Int), PyData.eqvAll (ds.map pairD) (es.map pairD) = decide (ds = es)
  | [], [] => by simp [PyData.eqvAll]
  | [], _ :: _ => by simp [PyData.eqvAll]
  | _ :: _, [] => by simp [PyData.eqvAll]
  | (a, b) :: r, (c, d) :: t => by
    simp only [List.map_cons, PyData.eqvAll, PyData.eqv, pd_eqv r t]
    by_cases h : a = c <;> by_cases h' : b = d <;> by_cases h'' : r = t <;> simp [h, h', h'']
section
variable {prog : Program} {w : World} {A : Around} {s : Shared} {h₀ : Heap} {L : Addr} {m : Str → Option Value} {news : Led} {E : Value → Shared → Prop}
theorem reads_pairs (N : News h₀ L s.heap news) : ∀ {vs : List Value} {ds : List (Int × Int)}, All2 (PairIn news) vs ds → ∃ as, ReadsAll s.heap vs (ds.map pairD) as := by
  intro vs ds h
  induction h with
  | nil => exact ⟨[], .nil⟩
  | cons h _ ih =>
    obtain ⟨as, ih⟩ := ih
    obtain ⟨a, n, t, u, rfl, hm⟩ := h
    exact ⟨_, .cons (reads_tuple_at (N _ hm).1 rfl rfl (.cons (.int _ t) (.cons (.int _ u) .nil))) ih⟩
theorem reads_pairs_list (N : News h₀ L s.heap news) {a : Addr} {ds : List (Int × Int)} (h : ListIn PairIn news (.ref a) ds) : ∃ as, Reads s.heap (.ref a) (.list (ds.map pairD)) as := by
  obtain ⟨_, n, vs, e, hm, hA⟩ := h
  cases e
  obtain ⟨as, r⟩ := reads_pairs N hA
  exact ⟨_, reads_list_at (N _ hm).1 rfl rfl r⟩
theorem eq_pairs {a b : Addr} {ds es : List (Int × Int)} {Q : Value → Shared → Prop} (N : News h₀ L s.heap news) (ha : ListIn PairIn news (.ref a) ds) (hb : ListIn PairIn news (.ref b) es) (hu : A.units + 64 < cLine) (h : Q (.bool (decide (ds = es))) s) :
    wpAny (model prog w) A (compareOp .Eq (.ref a) (.ref b)) Q E s := by
  obtain ⟨as, ra⟩ := reads_pairs_list N ha
  obtain ⟨bs, rb⟩ := reads_pairs_list N hb
  exact eq_dataH ra rb (pd_shaped _) (pd_shaped _) hu (by simp only [PyData.eqv, pd_eqv]; exact h)
theorem ne_pairs {a b : Addr} {ds es : List (Int × Int)} {Q : Value → Shared → Prop} (N : News h₀ L s.heap news) (ha : ListIn PairIn news (.ref a) ds) (hb : ListIn PairIn news (.ref b) es) (hu : A.units + 64 < cLine) (h : Q (.bool (!decide (ds = es))) s) :
    wpAny (model prog w) A (compareOp .NotEq (.ref a) (.ref b)) Q E s := by
  obtain ⟨as, ra⟩ := reads_pairs_list N ha
  obtain ⟨bs, rb⟩ := reads_pairs_list N hb
  exact ne_dataH ra rb (pd_shaped _) (pd_shaped _) hu (by simp only [PyData.eqv, pd_eqv]; exact h)
end
end Mine
namespace Mine
section
variable {prog : Program} {w : World} {A : Around} {s : Shared} {h₀ : Heap} {L : Addr} {m : Str → Option Value} {env cenv : Env}
/-- a comprehension over the keys of a dict -/
theorem CSrc.dict {elt target iter : Expr} {ifs : List Expr} {gs : List Comprehension} {scope : Scope} {pos : Pos} {cl : List (Str × Addr)} {d : Addr} {o : Obj} {kvs : List (Int × Value)} {nx₀ : Led} {E : Value → Shared → Prop} {K : Addr → List Value → Led → Shared → Prop} (P : Nat → List Value → Led → Prop)
    (hm : (d, o) ∈ nx₀) (hs : (d == sysModules) = false) (ho : o.IsDictOf (intKind prog w) kvs) (hh : A.handled = none) (F : Fr h₀ L s.heap m) (N : News h₀ L s.heap nx₀) (hcell : ∀ y ∈ scope.names, y.2 ≠ .cell) (hkind : scope.kind = .function) (hga : ∀ g', gs[0]? = some g' → g'.is_async = 0) (p0 : P 0 [] nx₀)
    (turn : ∀ (i : Nat) (k : Int) (x : Value) (tv : Tok) (ys : List Value) (tl : Led) (h : Heap) (tk : Nat) (I : Addr) (oI oC : Obj) (C D : Addr) (mC : Str → Option Value), kvs[i]? = some (k, x) → P i ys (nx₀ ++ tl) → Above nx₀ tl → Below3 nx₀ I C D → Off3 I C D (nx₀ ++ tl) → Trip I C D → Fr h₀ L h m → NsObj oC mC → News h₀ L h ((I, oI) :: (C, oC) :: (D, lst ys) :: (nx₀ ++ tl)) →
      CTurn prog w A h₀ L m (compEnvC scope cl C env) elt target ifs (⟨target, iter, ifs, 0⟩ :: gs) scope pos 0 I oI C D (CJ nx₀ P (i + 1)) (.int k tv) { s with heap := h, toks := tk })
    (done : ∀ (D : Addr) (ys : List Value) (tl : Led) (h : Heap) (tk : Nat), P kvs.length ys (nx₀ ++ tl) → Above nx₀ tl → (∀ q ∈ nx₀, q.1 < D) → K D ys (nx₀ ++ tl) { s with heap := h, toks := tk }) :
    CSrc prog w A h₀ L m env elt target iter ifs gs scope pos cl E K (.ref d) s := by
  intro RR hR
  obtain ⟨ep, ha⟩ := KdkAt.of ho
  have hat := ha.dictAt (N _ hm).1
  have hlt : d < s.heap.objs.size := Heap.lt_size (N _ hm).1
  refine wpAny_pyIter_dict hs hat ?_
  refine comp_core (cn := "dict_keyiterator") (S := fun nw => (d, o) ∈ nw) P hga (Walks.dictKeys (prog := prog) (w := w) (knd := intKind prog w) hh s.heap.objs.size d (Nat.ne_of_lt hlt) kvs ep) (fun i h st => by obtain ⟨o, e, r⟩ := st.1; exact ⟨o, e, r.1⟩) (by decide)
    (fun i h h' o' nw st e e' kp N S => ⟨st.1.at fun o q => by rw [e] at q; cases q; exact e', ⟨_, _, (N _ S).1, ha.choose_spec⟩⟩) hcell hkind ⟨⟨_, Heap.get?_push_size _ rfl, rfl, rfl⟩, hat.at' fun o e => Heap.get?_push_of_some _ e⟩ (fun b hb => ?_)
    (F.keeps fun _ _ e => Heap.get?_push_of_some _ e) (N.grown fun _ _ e => Heap.get?_push_of_some _ e) (Nat.ne_of_lt F.ns.lt) (next_is_new F) (fun p hp => Heap.lt_size (N p hp).1) (fun tl => List.mem_append.mpr (.inl hm)) p0 ?_ ?_
  · show b < (s.heap.push _).objs.size
    rw [Heap.size_push]
    rcases List.mem_cons.mp hb with rfl | hb
    · exact Nat.lt_succ_self _
    · rw [List.mem_singleton.mp hb]; exact Nat.lt_succ_of_lt hlt
  · rintro i v ys tl h tk oI oC C D mC hi ⟨k, x, hx, hk⟩ hp ha b3 off tr F' hC N'
    obtain ⟨tv, rfl⟩ := Value.isInt_shape hk
    exact turn i k x tv ys tl h tk _ oI oC C D mC hx hp ha b3 off tr F' hC N'
  · intro D C h tk m' ys tl oC hp ha hD F' N' hC e e0 n1 n2 o1
    exact hR D C _ m' ys _ oC ⟨h, tk, rfl⟩ F' N' hC e e0 n1 n2 o1 (done D ys tl h tk hp ha hD)
end
end Mine
namespace Mine
theorem RuleIn.isRef {w : World} {act : Str} {l : Led} {v : Value} {d : WD} (h : RuleIn w act l v d) : ∃ a, v = .ref a := let ⟨x, _, _, _, _, _, e, _, _, _⟩ := h; ⟨x, e⟩
theorem LotIn.isRef {l : Led} {v : Value} {d : Lots} (h : LotIn l v d) : ∃ a, v = .ref a := let ⟨x, _, _, _, e, _, _, _⟩ := h; ⟨x, e⟩
theorem DictIn.isRef {w : World} {l : Led} {v : Value} {d : WD} (h : DictIn w l v d) : ∃ a, v = .ref a := let ⟨x, _, _, e, _, _, _, _⟩ := h; ⟨x, e⟩
end Mine
namespace Mine
section
variable {led led' : Led}
theorem KvIn.monoC {kvs : List (Int × Value)} {d : WD} (h : KvIn led kvs d) (s : SubC led led') : KvIn led' kvs d := by
  cases h with
  | none => exact .none
  | four a => exact .four (a.monoC s)
  | seven a => exact .seven (a.monoC s)
  | both a b => exact .both (a.monoC s) (b.monoC s)
theorem DictIn.monoC {w : World} {v : Value} {d : WD} (h : DictIn w led v d) (s : SubC led led') : DictIn w led' v d := by
  obtain ⟨a, o, kvs, e, h, x, y, z⟩ := h
  refine ⟨a, o, kvs, e, mem_subC h (fun z e => ?_) s, x, y, z.monoC s⟩
  obtain ⟨es, ep, _, hd, _⟩ := y
  rw [hd] at e
  cases e
theorem RuleIn.monoC {w : World} {act : Str} {v : Value} {d : WD} (h : RuleIn w act led v d) (s : SubC led led') : RuleIn w act led' v d := by
  obtain ⟨x, dx, t, t1, t2, wv, e, h1, h2, h3⟩ := h
  exact ⟨x, dx, t, t1, t2, wv, e, mem_subC h1 (fun z e => nomatch e) s, mem_subC h2 (fun z e => nomatch e) s, h3.monoC s⟩
theorem ListIn.monoP {v : Value} {ds : List (Int × Int)} (h : ListIn PairIn led v ds) (s : ∀ p ∈ led, p ∈ led') : ListIn PairIn led' v ds := ListIn.mono (R := PairIn) (fun x y => PairIn.mono x y) h s
end
end Mine
namespace Mine
section
variable {prog : Program} {w : World} {A : Around} {s : Shared} {h₀ : Heap} {L : Addr} {m : Str → Option Value} {news : Led} {E : Value → Shared → Prop}
theorem add_led {l b : Addr} {vs ws : List Value} {k k' : Nat} {Q : Value → Shared → Prop} (F : Fr h₀ L s.heap m) (N : News h₀ L s.heap news) (hl : (l, listOf vs.toArray k) ∈ news) (hb : (b, listOf ws.toArray k') ∈ news) (hz : vs.length + ws.length ≤ 100000)
    (h : ∀ (D : Addr) (h' : Heap), Fr h₀ L h' m → News h₀ L h' ((D, listOf (vs ++ ws).toArray 0) :: news) → (∀ p ∈ news, p.1 < D) → Q (.ref D) { s with heap := h' }) :
    wpAny (model prog w) A (binaryOp .Add (.ref l) (.ref b)) Q E s :=
  add_lists (vs := vs) (ws := ws) (hsz := by rw [sizeLine_eq]; omega) F N (N.isList hl) (N.isList hb) fun h' F' N' => h _ h' F' N' fun p hp => Heap.lt_size (N p hp).1
end
end Mine
namespace Mine
section
variable {prog : Program} {w : World} {A : Around} {s : Shared} {h₀ : Heap} {L : Addr} {m : Str → Option Value} {env cenv : Env}
/-- the same with a word of what is new alone -/
noncomputable def TJ (nx₀ : Led) (P : Nat → List Value → Led → Prop) (i : Nat) (ys : List Value) (l : Led) : Prop := ∀ tl, l = nx₀ ++ tl → P i ys tl
theorem TJ.mk {nx₀ tl : Led} {P : Nat → List Value → Led → Prop} {i : Nat} {ys : List Value} (h : P i ys tl) : TJ nx₀ P i ys (nx₀ ++ tl) := fun _ e => List.append_cancel_left e ▸ h
theorem CSrc.listT {elt target iter : Expr} {ifs : List Expr} {gs : List Comprehension} {scope : Scope} {pos : Pos} {cl : List (Str × Addr)} {l : Addr} {vs : List Value} {k : Nat} {nx₀ : Led} {E : Value → Shared → Prop} {K : Addr → List Value → Led → Shared → Prop} (P : Nat → List Value → Led → Prop)
    (hm : (l, listOf (List.toArray vs) k) ∈ nx₀) (hh : A.handled = none) (F : Fr h₀ L s.heap m) (N : News h₀ L s.heap nx₀) (hcell : ∀ y ∈ scope.names, y.2 ≠ .cell) (hkind : scope.kind = .function) (hga : ∀ g', gs[0]? = some g' → g'.is_async = 0) (p0 : P 0 [] [])
    (turn : ∀ (i : Nat) (v : Value) (ys : List Value) (tl : Led) (h : Heap) (tk : Nat) (I : Addr) (oI oC : Obj) (C D : Addr) (mC : Str → Option Value), vs[i]? = some v → P i ys tl → Above nx₀ tl → Below3 nx₀ I C D → Off3 I C D (nx₀ ++ tl) → Trip I C D → Fr h₀ L h m → NsObj oC mC → News h₀ L h ((I, oI) :: (C, oC) :: (D, lst ys) :: (nx₀ ++ tl)) →
      CTurn prog w A h₀ L m (compEnvC scope cl C env) elt target ifs (⟨target, iter, ifs, 0⟩ :: gs) scope pos 0 I oI C D (CJ nx₀ (TJ nx₀ P) (i + 1)) v { s with heap := h, toks := tk })
    (done : ∀ (D : Addr) (ys : List Value) (tl : Led) (h : Heap) (tk : Nat), P vs.length ys tl → Above nx₀ tl → (∀ q ∈ nx₀, q.1 < D) → K D ys (nx₀ ++ tl) { s with heap := h, toks := tk }) :
    CSrc prog w A h₀ L m env elt target iter ifs gs scope pos cl E K (.ref l) s :=
  CSrc.list (TJ nx₀ P) hm hh F N hcell hkind hga (fun tl e => by
      have e2 : tl = [] := by have := congrArg List.length e; rw [List.length_append] at this; exact List.length_eq_zero_iff.mp (by omega)
      rw [e2]; exact p0)
    (fun i v ys tl h tk I oI oC C D mC hv hp => turn i v ys tl h tk I oI oC C D mC hv (hp tl rfl)) (fun D ys tl h tk hp => done D ys tl h tk (hp tl rfl))
end
end Mine
namespace Mine
section
variable {D : Addr} {news led : Led} {P Q R S T U V W : Prop}
theorem lt_and6 (h : P ∧ Q ∧ R ∧ S ∧ T ∧ U ∧ AllLt D led) (s : ∀ q ∈ news, q ∈ led) : ∀ q ∈ news, q.1 < D := lt_all h.2.2.2.2.2.2 s
theorem lt_and7 (h : P ∧ Q ∧ R ∧ S ∧ T ∧ U ∧ V ∧ AllLt D led) (s : ∀ q ∈ news, q ∈ led) : ∀ q ∈ news, q.1 < D := lt_all h.2.2.2.2.2.2.2 s
theorem lt_and8 (h : P ∧ Q ∧ R ∧ S ∧ T ∧ U ∧ V ∧ W ∧ AllLt D led) (s : ∀ q ∈ news, q ∈ led) : ∀ q ∈ news, q.1 < D := lt_all h.2.2.2.2.2.2.2.2 s
end
end Mine

end
section
open PySem PySem.W PyProof.Rows PySem.Spec PySem.Calls
set_option maxRecDepth 100000
namespace Mine
/-- a rule's wishes, each of its field -/
noncomputable def WD.okG (d : WD) : Prop := (∀ x, d.1 = some x → x.ok 3) ∧ ∀ x, d.2 = some x → x.ok 8
theorem WD.ok.g {d : WD} (h : WD.ok d) : WD.okG d := ⟨h.1, fun x e => by
  obtain ⟨k, n, rfl, h0, h1, h2, h3⟩ := h.2 x e
  have h8 : (2 : Int) ^ 8 = 256 := rfl
  exact ⟨by omega, by omega, by rw [h8]; omega⟩⟩
theorem block_ok {bits j : Nat} {b : Int} (hb : bits ≤ 8) (hj : j ≤ bits) (h0 : 0 ≤ b) (hd : (2 : Int) ^ j ∣ b) (h1 : b + 2 ^ j ≤ 2 ^ bits) : (Wish.mask b (2 ^ bits - 2 ^ j)).ok bits := by
  have hp8 := pow_le256 hb
  have ez : ((2 ^ j : Nat) : Int) = 2 ^ j := by simp
  have ew : ((2 ^ bits : Nat) : Int) = 2 ^ bits := by simp
  have pj : (0 : Int) < 2 ^ j := Int.pow_pos (by decide)
  have hle : (2 : Int) ^ j ≤ 2 ^ bits := ipow_le hj
  obtain ⟨n, rfl⟩ : ∃ n : Nat, b = (n : Int) := ⟨b.toNat, by omega⟩
  have hn : n < 2 ^ bits := by omega
  have A := and_high hj hn
  refine ⟨by omega, by omega, ?_⟩
  rw [A]
  have hdn : (2 : Nat) ^ j ∣ n := by rw [← ez] at hd; exact_mod_cast hd
  rw [Nat.mod_eq_zero_of_dvd hdn]
  simp
theorem seg_ok {bits : Nat} {lo hi : Int} (hb : bits ≤ 8) : ∀ (k : Nat) (b : Int), k ≤ bits → 0 ≤ b → (2 : Int) ^ k ∣ b → b + 2 ^ k ≤ 2 ^ bits → ∀ p ∈ seg (2 ^ bits) lo hi k b, (Wish.mask p.1 p.2).ok bits
  | 0, b, hk, h0, hd, h1, p, hp => by
    unfold seg at hp
    split at hp
    · cases hp
    · rw [List.mem_singleton.mp hp]
      exact block_ok hb hk h0 hd h1
  | k + 1, b, hk, h0, hd, h1, p, hp => by
    have p' : (0 : Int) < 2 ^ k := Int.pow_pos (by decide)
    have e2 : (2 : Int) ^ (k + 1) = 2 ^ k + 2 ^ k := by rw [Int.pow_succ]; omega
    have db : (2 : Int) ^ k ∣ b := Int.dvd_trans (ipow_dvd (by omega)) hd
    unfold seg at hp
    split at hp
    · cases hp
    split at hp
    · rw [List.mem_singleton.mp hp]
      exact block_ok hb hk h0 hd h1
    · rcases List.mem_append.mp hp with hp | hp
      · exact seg_ok hb k b (by omega) h0 db (by omega) p hp
      · exact seg_ok hb k (b + 2 ^ k) (by omega) (by omega) (Int.dvd_add db (Int.dvd_refl _)) (by omega) p hp
theorem masks_ok {bits : Nat} {d : Wish} (hb : bits ≤ 8) (ok : d.ok bits) : ∀ p ∈ d.masks bits, (Wish.mask p.1 p.2).ok bits := by
  cases d with
  | mask v m =>
    intro p hp
    rw [List.mem_singleton.mp hp]
    exact ok
  | range lo hi => exact seg_ok hb bits 0 (Nat.le_refl _) (Int.le_refl _) (Int.dvd_zero _) (by omega)
noncomputable def bitsOf (k : Int) : Nat := if k = 4 then 3 else 8
noncomputable def WD.set (d : WD) (k : Int) (x : Wish) : WD := if k = 4 then (some x, d.2) else (d.1, some x)
/-- the rules of masks: a place's step, the places' run -/
noncomputable def mstep (found : List WD) (e : Int × Wish) : List WD := found.flatMap fun d => (e.2.masks (bitsOf e.1)).map fun p => d.set e.1 (.mask p.1 p.2)
noncomputable def WD.masked (d : WD) (i : Nat) : List WD := (d.entries.take i).foldl mstep [WD0]
noncomputable def WD.maskeds (d : WD) : List WD := d.entries.foldl mstep [WD0]
theorem masked_succ {d : WD} {i : Nat} {e : Int × Wish} (h : d.entries[i]? = some e) : d.masked (i + 1) = mstep (d.masked i) e := by
  unfold WD.masked
  rw [List.take_add_one, h, List.foldl_append]
  rfl
theorem masked_all (d : WD) : d.masked d.entries.length = d.maskeds := by unfold WD.masked WD.maskeds; rw [List.take_length]
theorem mstep_length (found : List WD) (e : Int × Wish) : (mstep found e).length = found.length * (e.2.masks (bitsOf e.1)).length := by
  unfold mstep
  induction found with
  | nil => simp
  | cons d r ih => rw [List.flatMap_cons, List.length_append, ih, List.length_map, List.length_cons, Nat.add_mul, Nat.one_mul, Nat.add_comm]
end Mine
namespace Mine
noncomputable def MOk (d : WD) (most : Int) : Prop := d.entries = [] ∨ (d.maskeds.length : Int) ≤ most
noncomputable abbrev mStored : List Str := [Str.ofString "found", Str.ofString "place", Str.ofString "wish", Str.ofString "rows", Str.ofString "longer", Str.ofString "wishes", Str.ofString "value", Str.ofString "mask", Str.ofString "row"]
/-- the loop of masked_rules over the rule's rows -/
inductive MJ (w : World) (NX : Led) (d : WD) (most : Int) (m₀ : Str → Option Value) (i : Nat) (m : Str → Option Value) (nx : Led) : Prop
  | of9 : ∀ (f : Addr) (n : Nat) (fs : List Value) (tl : Led), (nx = NX ++ tl) → (Above NX tl) → (m (Str.ofString "found") = some (.ref f)) → ((f, listOf fs.toArray n) ∈ NX ++ tl) → (All2 (DictIn w (NX ++ tl)) fs (d.masked i)) → (0 < i → ((d.masked i).length : Int) ≤ most) → (∀ z, mStored.contains z = false → m z = m₀ z) → MJ w NX d most m₀ i m nx
end Mine
namespace Mine
theorem name_m {h₀ h : Heap} {L : Addr} {a b c : Addr} {o o1 o2 : Obj} {news tl : Led} (_ : News h₀ L h ((a, o) :: (b, o1) :: (c, o2) :: (news ++ tl))) :
    ∃ l9 d9 q9 p9 T9, l9 = a ∧ d9 = b ∧ q9 = o1 ∧ p9 = o2 ∧ T9 = tl := ⟨a, b, o1, o2, tl, rfl, rfl, rfl, rfl, rfl⟩
theorem name_mem {a : Addr} {vs : List Value} {n : Nat} {led : Led} (_ : (a, listOf vs.toArray n) ∈ led) : ∃ a' vs' n', a' = a ∧ vs' = vs ∧ n' = n := ⟨a, vs, n, rfl, rfl, rfl⟩
end Mine
namespace Mine
theorem masked_at4 {d : WD} {i : Nat} {x : Wish} (h : d.entries[i]? = some (4, x)) : d.masked i = [WD0] := by
  rcases d with ⟨_ | a, _ | b⟩ <;> rcases i with _ | _ | i <;> simp [WD.entries] at h <;> rfl
theorem mstep_none7 {found : List WD} {x : Wish} (h : ∀ d ∈ found, d.2 = none) : ∀ d ∈ mstep found (4, x), d.2 = none := by
  intro d hd
  obtain ⟨d', hd', he⟩ := List.mem_flatMap.mp hd
  obtain ⟨p, _, rfl⟩ := List.mem_map.mp he
  show d'.2 = none
  exact h d' hd'
theorem masked_at7 {d : WD} {i : Nat} {x : Wish} (h : d.entries[i]? = some (7, x)) : ∀ d' ∈ d.masked i, d'.2 = none := by
  rcases d with ⟨_ | a, _ | b⟩ <;> rcases i with _ | _ | i <;> simp [WD.entries] at h
  · intro d' hd'
    rw [List.mem_singleton.mp (show d' ∈ [WD0] from hd')]
  · rw [show WD.masked (some a, some b) 1 = mstep [WD0] (4, a) from rfl]
    exact mstep_none7 fun d hd => by rw [List.mem_singleton.mp hd]
/-- the loop over the found ones -/
inductive MJ2 (w : World) (n0 NX : Led) (lg : Addr) (found : List WD) (e : Int × Wish) (m₀ : Str → Option Value) (j : Nat) (m : Str → Option Value) (nx : Led) : Prop
  | of9 : ∀ (xs : List Value) (k : Nat) (tl : Led), (nx = (lg, listOf xs.toArray k) :: (NX ++ tl)) → (∀ p ∈ NX ++ tl, p.1 ≠ lg) → (Above NX tl) → (All2 (DictIn w (n0 ++ tl)) xs (mstep (found.take j) e)) → (∀ z, [Str.ofString "wishes", Str.ofString "value", Str.ofString "mask", Str.ofString "row"].contains z = false → m z = m₀ z) → MJ2 w n0 NX lg found e m₀ j m nx
inductive MJ3 (w : World) (n0 NX : Led) (lg : Addr) (d : WD) (k : Int) (ms : List (Int × Int)) (ds : List WD) (m₀ : Str → Option Value) (q : Nat) (m : Str → Option Value) (nx : Led) : Prop
  | of9 : ∀ (xs : List Value) (kk : Nat) (tl : Led), (nx = (lg, listOf xs.toArray kk) :: (NX ++ tl)) → (∀ p ∈ NX ++ tl, p.1 ≠ lg) → (Above NX tl) → (All2 (DictIn w (n0 ++ tl)) xs (ds ++ (ms.take q).map fun p => d.set k (.mask p.1 p.2))) → (∀ z, [Str.ofString "value", Str.ofString "mask", Str.ofString "row"].contains z = false → m z = m₀ z) → MJ3 w n0 NX lg d k ms ds m₀ q m nx
end Mine
namespace Mine
theorem masks_len {bits : Nat} {d : Wish} (hb : bits ≤ 8) (ok : d.ok bits) : (d.masks bits).length ≤ 256 := by
  cases d with
  | mask v m => simp [Wish.masks]
  | range lo hi => exact rm_short hb ok.1 ok.2.2
end Mine
namespace Mine
/-- the making of the error, as it stands: the walk stops here -/
noncomputable def RaiseAt (prog : Program) (w : World) (A : Around) (vs : List Value) (Q E : Value → Shared → Prop) (s : Shared) : Prop := wpAny (model prog w) A (call (.ref 45) vs) Q E s
theorem raise_stop {prog : Program} {w : World} {A : Around} {vs : List Value} {Q E : Value → Shared → Prop} {s : Shared} (h : RaiseAt prog w A vs Q E s) : wpAny (model prog w) A (call (.ref 45) vs) Q E s := h
end Mine
namespace Mine
theorem name_two {h₀ h : Heap} {L : Addr} {a b : Addr} {o o1 : Obj} {led : Led} (_ : News h₀ L h ((a, o) :: (b, o1) :: led)) :
    ∃ a9 b9 p9, a9 = a ∧ b9 = b ∧ p9 = o1 := ⟨a, b, o1, rfl, rfl, rfl⟩
end Mine
namespace Mine
theorem mstep_okG {found : List WD} {e : Int × Wish} (h : ∀ d ∈ found, WD.okG d) (he : e.1 = 4 ∧ e.2.ok 3 ∨ e.1 = 7 ∧ e.2.ok 8) : ∀ d ∈ mstep found e, WD.okG d := by
  intro d hd
  obtain ⟨d', hd', hm⟩ := List.mem_flatMap.mp hd
  obtain ⟨p, hp, rfl⟩ := List.mem_map.mp hm
  obtain ⟨k, x⟩ := e
  have ok' := h d' hd'
  rcases he with ⟨rfl, ok⟩ | ⟨rfl, ok⟩
  · exact ⟨fun z e => by cases e; exact masks_ok (by decide) ok p hp, ok'.2⟩
  · exact ⟨ok'.1, fun z e => by cases e; exact masks_ok (by decide) ok p hp⟩
theorem maskeds_okG {d : WD} (ok : WD.ok d) : ∀ d' ∈ d.maskeds, WD.okG d' := by
  have h0 : ∀ d' ∈ [WD0], WD.okG d' := fun d' hd' => by
    rw [List.mem_singleton.mp hd']
    exact ⟨fun _ e => (by cases e), fun _ e => (by cases e)⟩
  have okg := ok.g
  rcases d with ⟨_ | a, _ | b⟩
  · exact h0
  · exact mstep_okG h0 (.inr ⟨rfl, okg.2 b rfl⟩)
  · exact mstep_okG h0 (.inl ⟨rfl, okg.1 a rfl⟩)
  · exact mstep_okG (mstep_okG h0 (.inl ⟨rfl, okg.1 a rfl⟩)) (.inr ⟨rfl, okg.2 b rfl⟩)
end Mine

end
section
open PySem PySem.W PyProof.Rows PySem.Spec PySem.Calls
set_option maxRecDepth 100000
namespace Mine
theorem without_nil {xs ys : List Int} : (without xs ys == []) = xs.all fun n => ys.any (· == n) := by
  rw [beq_dec]
  rw [Bool.eq_iff_iff]
  simp only [decide_eq_true_eq, without, List.filter_eq_nil_iff, List.all_eq_true, Bool.not_eq_true']
  constructor
  · intro h x hx
    have := h x hx
    simpa using this
  · intro h x hx
    have := h x hx
    simpa using this
theorem any_beq {ys : List Int} {n : Int} : (ys.any (· == n)) = true ↔ n ∈ ys := by simp
theorem lotsWithin_eq (l l' : Lots) : lotsWithin l l' = ((without l.1 l'.1 == []) && (without l.2 l'.2 == [])) := by
  unfold lotsWithin
  have e : upto 2 = [0, 1] := rfl
  rw [e]
  simp only [List.filter_cons, List.filter_nil, lotsIn, lotOf]
  cases h1 : without l.1 l'.1 == [] <;> cases h2 : without l.2 l'.2 == [] <;> simp_all [bne]
theorem all_mem {xs ys : List Int} : (xs.all fun n => ys.any (· == n)) = true ↔ ∀ n ∈ xs, n ∈ ys := by
  simp
theorem mem_upto {k : Nat} {n : Int} : n ∈ upto k ↔ 0 ≤ n ∧ n < k := by
  unfold upto
  rw [List.mem_map]
  constructor
  · rintro ⟨i, hi, rfl⟩
    have := List.mem_range.mp hi
    omega
  · rintro ⟨h1, h2⟩
    exact ⟨n.toNat, List.mem_range.mpr (by omega), by omega⟩
theorem mem_nums {bits : Nat} {d : Wish} {n : Int} : n ∈ d.nums bits ↔ (0 ≤ n ∧ n < (2 ^ bits : Nat)) ∧ d.has n = true := by
  unfold Wish.nums
  rw [List.mem_filter, mem_upto]
/-- within, of three bits -/
theorem within3_law {x y : Wish} (okx : x.ok 3) (oky : y.ok 3) : x.within 3 y = (without (x.nums 3) (y.nums 3) == []) := by
  rw [(pair_law okx oky).1, without_nil, Bool.eq_iff_iff, decide_eq_true_eq, all_mem, List.filter_eq_self]
  simp
theorem within8_law {a b c d : Int} (h0 : 0 ≤ a) (h1 : a ≤ b) (h2 : b < 256) : (Wish.range a b).within 8 (.range c d) = (without ((Wish.range a b).nums 8) ((Wish.range c d).nums 8) == []) := by
  have e0 : (Wish.range a b).within 8 (.range c d) = (decide (c ≤ a) && decide (b ≤ d)) := rfl
  rw [e0, without_nil, Bool.eq_iff_iff, all_mem, Bool.and_eq_true, decide_eq_true_iff, decide_eq_true_iff]
  have e : ((2 ^ 8 : Nat) : Int) = 256 := rfl
  constructor
  · rintro ⟨p, q⟩ n hn
    rw [mem_nums] at hn ⊢
    simp only [Wish.has, Bool.and_eq_true, decide_eq_true_eq] at hn ⊢
    omega
  · intro h
    have ha : a ∈ (Wish.range a b).nums 8 := by rw [mem_nums]; simp only [Wish.has, Bool.and_eq_true, decide_eq_true_eq]; omega
    have hb : b ∈ (Wish.range a b).nums 8 := by rw [mem_nums]; simp only [Wish.has, Bool.and_eq_true, decide_eq_true_eq]; omega
    have h3 := h a ha
    have h4 := h b hb
    rw [mem_nums] at h3 h4
    simp only [Wish.has, Bool.and_eq_true, decide_eq_true_eq] at h3 h4
    omega
theorem without_upto {bits : Nat} (d : Wish) : (without (d.nums bits) (upto (2 ^ bits)) == []) = true := by
  rw [without_nil, all_mem]
  intro n hn
  exact (List.mem_filter.mp hn).1
theorem without_upto' {k : Nat} : (without (upto k) (upto k) == []) = true := by
  rw [without_nil, all_mem]
  exact fun n hn => hn
theorem ew4 {a y : Wish} {o : Option Wish} : WD.entryWithin (some a, o) (4, y) = a.within 3 y := rfl
theorem ew4n {y : Wish} {o : Option Wish} : WD.entryWithin (none, o) (4, y) = false := rfl
theorem ew7 {a y : Wish} {o : Option Wish} : WD.entryWithin (o, some a) (7, y) = a.within 8 y := rfl
theorem ew7n {y : Wish} {o : Option Wish} : WD.entryWithin (o, none) (7, y) = false := rfl
theorem fieldsIn_eq (p' q' p q : Option Wish) : fieldsIn (p', q') (p, q) = ((p'.isNone || p.isSome) && (q'.isNone || q.isSome)) := by
  cases p' <;> cases q' <;> cases p <;> cases q <;> rfl
theorem up8 : (without (upto 8) (upto 8) == []) = true := without_upto'
theorem up256 : (without (upto 256) (upto 256) == []) = true := without_upto'
theorem nu8 (d : Wish) : (without (d.nums 3) (upto 8) == []) = true := without_upto (bits := 3) d
theorem nu256 (d : Wish) : (without (d.nums 8) (upto 256) == []) = true := without_upto (bits := 8) d
/-- one rule within another, by the lists of their numbers -/
theorem rule_law {d d' : WD} (ok : WD.ok d) (ok' : WD.ok d') : d.within d' = (fieldsIn d' d && lotsWithin d.lots d'.lots) := by
  rw [lotsWithin_eq]
  rcases d with ⟨p, q⟩
  rcases d' with ⟨p', q'⟩
  rw [fieldsIn_eq]
  have h8 : ∀ x y, q = some x → q' = some y → x.within 8 y = (without (x.nums 8) (y.nums 8) == []) := by
    intro x y hx hy
    obtain ⟨k, n, rfl, h0, h1, h2, h3⟩ := ok.2 x hx
    obtain ⟨k', n', rfl, _⟩ := ok'.2 y hy
    exact within8_law (by omega) (by omega) (by omega)
  have h3 : ∀ x y, p = some x → p' = some y → x.within 3 y = (without (x.nums 3) (y.nums 3) == []) := fun x y hx hy => within3_law (ok.1 x hx) (ok'.1 y hy)
  cases p <;> cases q <;> cases p' <;> cases q'
  all_goals simp only [WD.within, WD.entries, List.all_cons, List.all_nil, ew4, ew4n, ew7, ew7n, WD.lots, WD.lot4, WD.lot7, Option.isNone_none, Option.isNone_some, Option.isSome_none, Option.isSome_some, up8, up256, nu8, nu256, Bool.and_true, Bool.true_and, Bool.and_false, Bool.false_and, Bool.or_true, Bool.true_or, Bool.or_false, Bool.false_or]
  all_goals first
    | done
    | rw [h3 _ _ rfl rfl, h8 _ _ rfl rfl]
    | rw [h3 _ _ rfl rfl]
    | rw [h8 _ _ rfl rfl]
theorem find_filter {p : Nat → Bool} : ∀ (l : List Nat), l.find? p = (l.filter p).head?
  | [] => rfl
  | a :: r => by
    rw [List.find?_cons, List.filter_cons]
    cases p a
    · simpa using find_filter r
    · rfl
theorem shadows_law {ds : List WD} (ok : ∀ d ∈ ds, WD.ok d) : shUpto ds ds.length = dueUpto ds ds.length := by
  unfold shUpto dueUpto
  rw [List.flatMap_def, List.flatMap_def]
  refine congrArg List.flatten (List.map_congr_left fun p hp => ?_)
  have hp := List.mem_range.mp hp
  have okp : WD.ok (dAt ds p) := ok _ (by rw [dAt_of (List.getElem?_eq_getElem hp)]; exact List.getElem_mem hp)
  have e : elder2 ds p = (List.range p).filter fun e => (dAt ds p).within (dAt ds e) := by
    unfold elder2 elder1
    rw [List.filter_filter]
    refine List.filter_congr fun e he => ?_
    have he := Nat.lt_trans (List.mem_range.mp he) hp
    have oke : WD.ok (dAt ds e) := ok _ (by rw [dAt_of (List.getElem?_eq_getElem he)]; exact List.getElem_mem he)
    rw [rule_law okp oke, Bool.and_comm]
  unfold shOne dueOne elderOf
  rw [e, find_filter]
  cases (List.range p).filter fun e => (dAt ds p).within (dAt ds e) <;> rfl
end Mine

end
section
open PySem PySem.W PyProof.Rows PySem.Spec PySem.Calls
set_option maxRecDepth 100000
set_option maxHeartbeats 4000000
namespace Mine
section
variable {prog : Program} {w : World} {A : Around} {R : Result → Shared → Prop} {E : Value → Shared → Prop} {h : Heap} {g : Array GenState} {d : Drawn} {t : Nat} {os : OsState}
variable {nm q : Str} {C N : Addr} {bs bm bmB : List Value} {hdct : Bool} {sn : List Str} {sub : List Value} {ab : Bool} {col : Option Bool} {dd : Option Addr} {k0 k1 k2 k3 k5 : Option Value} {B newId initId : String}
theorem check_new_err {M : Model} (F : ExcBaseFacts B newId initId bmB) (hcont : (Value.ref C :: bm).contains (.type B) = true) {rest : List Value} {Q : Unit → Shared → Prop} (hC : h.get? C = some (excClassObj nm q C N bs bm hdct sn sub ab col dd k0 k1 k2 k3 k5 newId))
    (hq : Q () ⟨h, g, d, t, os⟩) : wpAny M A (checkBuiltinCall newId ⟨.ref C :: rest, []⟩) Q E ⟨h, g, d, t, os⟩ := by
  have hstar := F.noStar
  simp only [checkBuiltinCall, F.newKind, F.newSplit, F.newRow]
  repeat (first | refine wpAny_loadPart_at hC ?_ | (refine wpAny_isSubtype_exc hC ?_; rw [hcont]) | refine wpAny_staticBase_exc hC ?_ | refine wpAny_madeBy_exc hC ?_ | simp only [bne_self_eq_false, Bool.false_eq_true, if_false] | wp_step)
  exact hq
theorem code_new_err (F : ExcBaseFacts B newId initId bmB) (hcB : (Value.ref C :: bm).contains (.type B) = true) (hcA : (Value.ref C :: bm).contains (.type "AttributeError") = false) (hcN : (Value.ref C :: bm).contains (.type "NameError") = false) {rest : List Value} (hC : h.get? C = some (excClassObj nm q C N bs bm hdct sn sub ab col dd k0 k1 k2 k3 k5 newId))
    (hq : R (.ok (.ret (.ref (h.objs.size + 1)))) ⟨(h.push { cls := .type "tuple", data := .seq rest.toArray }).push
      { cls := .ref C, data := .fields #[.ref h.objs.size, .none, .none, .none, .bool false, .none] }, g, d, t, os⟩) (hrest : rest.length ≤ sizeLine) :
    codeAny (model prog w) A (.builtin newId ⟨.ref C :: rest, []⟩) R ⟨h, g, d, t, os⟩ := by
  have hends := F.ends
  refine codeAny_builtinAt F.entry ?_
  unfold Builtin.«BaseException.__new__»
  refine _root_.PySem.wpAt_bind ?_
  show _root_.PySem.wpAt _ _ _ (stack >>= _) _ _ _
  refine _root_.PySem.wpAt_bind (_root_.PySem.wpAt_stack fun p below => _root_.PySem.wpAt_of_wpAny ?_)
  wp_walk
  refine _root_.PySem.wpAt_of_wpAny ?_
  rw [F.owner]
  repeat (first | with_reducible refine wpAny_madeHere_exc F.canon hC ?_ | with_reducible refine wpAny_loadPart_at hC ?_ | (with_reducible refine wpAny_isSubtype_exc hC ?_; first | rw [hcB] | rw [hcA] | rw [hcN]) | wp_step)
  show R _ _
  rw [Heap.size_push]
  exact hq
noncomputable abbrev excO (C a : Addr) : Obj := { cls := .ref C, data := .fields #[.ref a, .none, .none, .none, .bool false, .none] }
noncomputable abbrev tupN (vs : List Value) : Obj := { cls := .type "tuple", data := .seq vs.toArray }
theorem make_err {rest : List Value} {fI : Value} (F : ExcBaseFacts B newId initId bmB) (hcB : (Value.ref C :: bm).contains (.type B) = true) (hcA : (Value.ref C :: bm).contains (.type "AttributeError") = false) (hcN : (Value.ref C :: bm).contains (.type "NameError") = false)
    (hC : h.get? C = some (excClassObj nm q C N bs bm hdct sn sub ab col dd k0 k1 k2 k3 k5 newId)) (hi : Looks (model prog w) h (typeLookup (.ref C) "__init__") (some fI)) (hb : ∀ self, Looks (model prog w) h (bindSpecial fI self) (fI, [self])) (hrest : rest.length ≤ sizeLine)
    (hq : codeAny (model prog w) (A.under (.builtin "type.__call__" ⟨.ref C :: rest, []⟩)) (.call fI ⟨.ref (h.objs.size + 1) :: rest, []⟩) (InitBack (h.objs.size + 1) R) ⟨(h.push (tupN rest)).push (excO C h.objs.size), g, d, t, os⟩) :
    codeAny (model prog w) A (.call (.ref C) ⟨rest, []⟩) R ⟨h, g, d, t, os⟩ := by
  have f1 := tc_lookup
  have f2 := tc_bind (.ref C)
  have hT : (⟨h, g, d, t, os⟩ : Shared).TypeIs (.ref C) "type" := ⟨_, hC, rfl⟩
  refine codeAny_of_tree ?_
  show wpAny _ _ (callAny (.ref C) _) _ _ _
  repeat (any_goals (first | assumption | with_reducible refine wpAny_loadPart_at hC ?_ | wp_step))
  refine ⟨rfl, ?_⟩
  refine codeAny_call_builtin_at (Code.quiet_builtin _ (by decide +kernel)) entry_typeCall (wpAny_check_type_call_sub hC ?_)
  unfold Builtin.«type.__call__»
  repeat (first | with_reducible refine wpAny_loadPart_at hC ?_ | with_reducible refine wpAny_madeBy_exc hC ?_ | wp_step)
  refine codeAny_call_builtin_code (Code.quiet_builtin _ F.quiet) (check_new_err F hcB hC ?_)
  refine code_new_err F hcB hcA hcN hC ?_ hrest
  have k : ∀ b o, h.get? b = some o → ((h.push (tupN rest)).push (excO C h.objs.size)).get? b = some o := fun b o e => Heap.get?_push_of_some _ (Heap.get?_push_of_some _ e)
  have hx : ((h.push (tupN rest)).push (excO C h.objs.size)).get? (h.objs.size + 1) = some (excO C h.objs.size) := by heap_get
  have hC₁ := k _ _ hC
  have hcC : (Value.ref C :: bm).contains (.ref C) = true := by simp
  have t1 : Looks (model prog w) ((h.push (tupN rest)).push (excO C h.objs.size)) (typeOf (.ref (h.objs.size + 1))) (.ref C) := (Looks.ld hx).andThen .now
  have i1 := hi.keeps k
  have b1 := (hb (.ref (h.objs.size + 1))).keeps k
  show wpAny _ _ _ _ _ _
  unfold isInstance
  repeat (first | with_reducible refine wpAny_loadPart_at hx ?_ | (with_reducible refine wpAny_isSubtype_exc hC₁ ?_; rw [hcC]) | wp_step)
  show wpAny _ _ (isSubtype (.ref C) (.ref C)) _ _ _
  refine wpAny_isSubtype_exc hC₁ ?_
  rw [hcC]
  simp only [Bool.not_true, Bool.false_eq_true, if_false]
  unfold callSpecial? specialOf
  lk
  lk
  lk
  lk
  refine t1.at ?_
  refine i1.at ?_
  lk
  lk
  repeat (first | with_reducible refine wpAny_call ?_ | lk)
  refine codeAny_mono hq fun r s' z => ?_
  rcases r with e | (v | _ | _ | _) <;> first | exact z | exact z.elim | skip
  obtain ⟨rfl, z⟩ := z
  exact wpAny_pure (wpAny_pure z)
end
end Mine
namespace Mine
section
variable {w : World} {A : Around} {E : Value → Shared → Prop} {s : Shared} {h₀ : Heap} {L : Addr} {m : Str → Option Value} {news : Led}
theorem call_err {v : Value} {Q : Value → Shared → Prop} (F : Fr h₀ L s.heap m) (X₀ : (Mine.hd.heap_1 w.params).In h₀) (N : News h₀ L s.heap news)
    (h : ∀ e t h', Fr h₀ L h' m → News h₀ L h' ((e, excO 45 t) :: (t, tupN [v]) :: news) → (∀ p ∈ news, p.1 < t) → t < e →
      codeAny (model prg w) (A.under (.builtin "type.__call__" ⟨[.ref 45, v], []⟩)) (.call (.ref 29) ⟨[.ref e, v], []⟩) (InitBack e fun r s' => match r with | .ok (.ret v) => Q v s' | .ok _ => False | .error e => E e s') { s with heap := h' }) :
    wpAny (model prg w) A (call (.ref 45) [v]) Q E s := by
  have X := X₀.keeps F.keep
  obtain ⟨hh, g, d, t, os⟩ := s
  refine wpAny_call (make_err (bm := [.ref 32, .type "Exception", .type "BaseException", .type "object"]) PySem.F.excBase_Exception (by decide) (by decide) (by decide) (X 45 _ (by with_unfolding_all rfl)) (looks_findIn X (by with_unfolding_all rfl)) (fun self => bind_fn X self (by with_unfolding_all rfl)) (by rw [sizeLine_eq]; exact Nat.le_of_ble_eq_true rfl) ?_)
  refine h _ hh.objs.size _ ((F.push _).push _) ?_ (fun p hp => Heap.lt_size (N p hp).1) (Nat.lt_succ_self _)
  have := (N.push F (tupN [v])).push (F.push _) (excO 45 hh.objs.size)
  rwa [Heap.size_push] at this
end
end Mine
namespace Mine
section
variable {prog : Program} {w : World} {A : Around} {E : Value → Shared → Prop} {h : Heap} {g : Array GenState} {d : Drawn} {t : Nat} {os : OsState}
variable {nm q : Str} {C N : Addr} {bs bm bmB : List Value} {hdct : Bool} {sn : List Str} {sub : List Value} {ab : Bool} {col : Option Bool} {dd : Option Addr} {k0 k1 k2 k3 k5 : Option Value} {B newId initId : String}
theorem check_init_err (F : ExcBaseFacts B newId initId bmB) (hcB : (Value.ref C :: bm).contains (.type B) = true) {M : Model} {e : Addr} {oe : Obj} {rest : List Value} {Q : Unit → Shared → Prop}
    (hC : h.get? C = some (excClassObj nm q C N bs bm hdct sn sub ab col dd k0 k1 k2 k3 k5 newId)) (he : h.get? e = some oe) (hcls : oe.cls = .ref C) (hq : Q () ⟨h, g, d, t, os⟩) :
    wpAny M A (checkBuiltinCall initId ⟨.ref e :: rest, []⟩) Q E ⟨h, g, d, t, os⟩ := by
  have hshort := F.noStar
  simp only [checkBuiltinCall, F.initKind, F.initSplit, F.initRow]
  repeat (first | (with_reducible refine wpAny_loadPart_at he ?_; rw [hcls]) | with_reducible refine wpAny_loadPart_at hC ?_ | (with_reducible refine wpAny_isSubtype_exc hC ?_; rw [hcB]) | wp_step)
  refine wpAny_onRaise ?_
  rw [show ∀ (a b : String) (n : Nat), Bind.check ⟨.positional, "*", B, .self, [⟨"args", .varPos, false⟩]⟩ a b n (List.map (fun x => x.fst) ({ pos := Value.ref e :: rest } : Args).kw) = pure () from
    fun a b n => check_star_args _ _ _ _ _ _]
  exact wpAny_pure hq
end
section
variable {w : World} {A : Around} {E : Value → Shared → Prop} {s : Shared} {h₀ : Heap} {L : Addr} {m : Str → Option Value} {news : Led}
theorem call_excInit {e t : Addr} {v : Value} {Q : Value → Shared → Prop} (F : Fr h₀ L s.heap m) (X₀ : (Mine.hd.heap_1 w.params).In h₀) (N : News h₀ L s.heap ((e, excO 45 t) :: news)) (off : ∀ p ∈ news, p.1 ≠ e)
    (h : ∀ T h', Fr h₀ L h' m → News h₀ L h' ((T, tupN [v]) :: (e, excO 45 T) :: news) → (∀ p ∈ (e, excO 45 T) :: news, p.1 < T) → Q .none { s with heap := h' }) :
    wpAny (model prg w) A (call (.builtin "Exception.__init__") [.ref e, v]) Q E s := by
  have X := X₀.keeps F.keep
  have ze := N _ (.head _)
  obtain ⟨hh, g, d, tk, os⟩ := s
  have hlt : e < hh.objs.size := Heap.lt_size ze.1
  refine wpAny_call (codeAny_call_builtin PySem.F.excBase_Exception.init.plain PySem.F.excBase_Exception.initEntry (check_init_err (bm := [.ref 32, .type "Exception", .type "BaseException", .type "object"]) PySem.F.excBase_Exception (by decide) (X 45 _ (by with_unfolding_all rfl)) ze.1 rfl ?_))
  have he' : (hh.push (tupN [v])).get? e = some (excO 45 t) := Heap.get?_push_of_some _ ze.1
  wp_walk
  repeat (first | with_reducible refine wpAny_load he' ?_ | with_reducible refine wpAny_load ze.1 ?_ | (with_reducible refine wpAny_field he' rfl rfl ?_) | (with_reducible refine wpAny_setField he' rfl (by decide) ?_) | wp_step)
  have hne : ∀ b, b ≠ e → ((hh.push (tupN [v])).update e (Obj.mapFields fun x => x.setIfInBounds 0 (Value.ref hh.objs.size))).get? b = (hh.push (tupN [v])).get? b := fun b hb => Heap.get?_update_other _ _ (Ne.symm hb)
  have hT : hh.objs.size ≠ e := Nat.ne_of_gt hlt
  have up : ∀ b o, b ≠ e → hh.get? b = some o → ((hh.push (tupN [v])).update e (Obj.mapFields fun x => x.setIfInBounds 0 (Value.ref hh.objs.size))).get? b = some o := fun b o hb e1 => (hne b hb).trans (Heap.get?_push_of_some _ e1)
  have FT := (F.push (tupN [v]))
  refine h hh.objs.size _ ?_ (fun p hp => ?_) (fun p hp => ?_)
  · refine ⟨F.ns.at' fun o e1 => up L o (Ne.symm ze.2.1) e1, fun b o e1 => up b o (fun q => by rw [q, ze.2.2] at e1; cases e1) (F.keep b o e1), F.above⟩
  · have fresh : h₀.get? hh.objs.size = none := next_is_new F
    rcases List.mem_cons.mp hp with rfl | hp
    · exact ⟨(hne _ hT).trans (Heap.get?_push_size _ rfl), Nat.ne_of_gt F.ns.lt, fresh⟩
    rcases List.mem_cons.mp hp with rfl | hp
    · exact ⟨Heap.get?_update_self _ he' rfl, ze.2⟩
    · have z := N p (.tail _ hp)
      exact ⟨up _ _ (off p hp) z.1, z.2⟩
  · rcases List.mem_cons.mp hp with rfl | hp
    · exact hlt
    · exact Heap.lt_size (N p (.tail _ hp)).1
end
end Mine

end
section
open PySem PySem.W PyProof.Rows PySem.Spec PySem.Calls Builtin Builtin.ObjectAttr
set_option maxRecDepth 100000
set_option maxHeartbeats 4000000
namespace Mine
theorem fill_Exc2 : PySem.Challenge.rw_pc0368_01.Holds ∧ Mine.hd.heap_1 = Mine.hd.heap_1 → True := by
  k_fill
  exact fun _ => trivial
section
variable {w : World} {A : Around} {E : Value → Shared → Prop} {s : Shared} {h₀ : Heap} {L : Addr} {m : Str → Option Value} {news : Led} {R : Result → Shared → Prop}
theorem err_osa {e t : Addr} {v : Value} {tk : Tok} (F : Fr h₀ L s.heap m) (X : (Mine.hd.heap_1 w.params).In s.heap) (N : News h₀ L s.heap ((e, excO 45 t) :: news)) (off : ∀ p ∈ news, p.1 ≠ e)
    (h : ∀ D oD h' tk', Fr h₀ L h' m → News h₀ L h' ((D, oD) :: (e, { excO 45 t with dict := some D }) :: news) → (∀ p ∈ (e, excO 45 t) :: news, p.1 < D) → R (.ok (.ret .none)) { s with heap := h', toks := tk' }) :
    codeAny (model prg w) A (.call (.builtin "object.__setattr__") ⟨[.ref e, .str (Str.ofString "message") tk, v], []⟩) R s := by
  have ze := N _ (.head _)
  have I : InstAt s.heap e (excO 45 t) 45 none := ⟨ze.1, rfl, rfl, trivial⟩
  have SF := PySem.F.store_Exception
  have hm : Looks (model prg w) s.heap (mroOf (.ref 45)) [.ref 45, .ref 32, .type "Exception", .type "BaseException", .type "object"] := (looks_clsIn X (by k_is)).andThen .now
  have sub : Looks (model prg w) s.heap (isInstance (.ref e) (.type "object")) true := I.type.andThen (looks_mroIn X (by k_is))
  refine codeAny_call_builtin SF.slot.plain SF.entry (@check_slot (model prg w) _ _ s "object.__setattr__" "object" "__setattr__" (.ref e) [.str (Str.ofString "message") tk, v] [] _ SF.kind SF.split sub (SF.args (.ref e) (.str (Str.ofString "message") tk) v) ?_)
  rw [osa_eq, refuse_eq]
  refine wpAny_bind (wpAny_bind (I.type.here (wpAny_bind (hm.here ?_))))
  rw [refuseLoop_ref, refuseLoop_ref, SF.passes]
  refine wpAny_pure (wpAny_bind (I.type.here (wpAny_bind ((looks_findIn X (r := none) (by k_is)).here ?_))))
  refine wpAny_bind (wpAny_pure ?_)
  dsimp only
  unfold storeInOwnDict
  have hx := ze.1
  have h0 := ze.2.2
  dsimp only at hx h0
  have hxs : e ≠ s.heap.objs.size := Nat.ne_of_lt (Heap.lt_size hx)
  have hx₁ : (s.heap.push { cls := .type "dict", data := .dict #[] }).get? e = some (excO 45 t) := Heap.get?_push_of_some _ hx
  refine wpAny_bind (wpAny_pure ?_)
  rw [if_neg (by decide)]
  unfold ownDictForStores instanceDict
  obtain ⟨cd, hc, hcd⟩ : ∃ cd, clsIn (Mine.hd.heap_1 w.params) 45 = some cd ∧ cd.hasDict = true := any_some (show hasDictIn (Mine.hd.heap_1 w.params) 45 = true by k_is)
  refine wpAny_bind (wpAny_bind (wpAny_loadPart hx ?_))
  dsimp only
  refine wpAny_bind ((looks_clsIn X hc).here ?_)
  rw [hcd]
  have hnd : ((s.heap.push { cls := .type "dict", data := .dict #[] }).update e fun o => { cls := o.cls, dict := some s.heap.objs.size, data := o.data, slots := o.slots }).Ns s.heap.objs.size (fun _ => none) :=
    ⟨_, #[], _, (Heap.get?_update_ne _ _ _ _ hxs.symm).trans (Heap.get?_push_at rfl rfl), rfl, fun e he => absurd he (by simp), fun _ => rfl⟩
  refine wpAny_bind (wpAny_alloc' (wpAny_bind (wpAny_update' hx₁ (wpAny_pure ?_))))
  show wpAny _ _ (storeInDict s.heap.objs.size (.str (Str.ofString "message") tk) (Str.ofString "message") v) _ _ _
  unfold storeInDict newKeyGuard
  refine wpAny_bind (wpAny_pure (wpAny_bind (wpAny_nsSet1 (Heap.Ns1.of_empty hnd) fun h' hn' hs => ?_)))
  obtain ⟨oD, esD, epD, hoD, hdD, hcD⟩ := hn'.count (Within.cons (Str.ofString "message") v Within.nil)
  refine wpAny_bind (wpAny_lookBehind hoD (by rw [hdD]; exact pastItsLine_dict (Nat.le_trans hcD (by rw [List.length_cons, List.length_nil, sizeLine_eq]; omega))) ?_)
  refine wpAny_pure ?_
  have keep : ∀ b o, b ≠ e → s.heap.get? b = some o → h'.get? b = some o := fun b o hb q => (hs.2 b (Nat.ne_of_lt (Heap.lt_size q))).trans ((Heap.get?_update_ne _ _ _ _ hb).trans (Heap.get?_push_of_some _ q))
  have hL : L ≠ e := fun q => ze.2.1 q.symm
  refine h s.heap.objs.size oD h' _ ⟨F.ns.at' fun o q => keep L o hL q, fun b o q => keep b o (fun z => by rw [z, h0] at q; cases q) (F.keep b o q), F.above⟩ (fun p hp => ?_) (fun p hp => Heap.lt_size (N p hp).1)
  rcases List.mem_cons.mp hp with rfl | hp
  · exact ⟨hoD, Nat.ne_of_gt F.ns.lt, next_is_new F⟩
  rcases List.mem_cons.mp hp with rfl | hp
  · exact ⟨(hs.2 e hxs).trans (Heap.get?_update_self _ hx₁ rfl), ze.2⟩
  · have z := N p (.tail _ hp)
    exact ⟨keep _ _ (off p hp) z.1, z.2⟩
theorem err_store {e t : Addr} {v : Value} {Q : Unit → Shared → Prop} (F : Fr h₀ L s.heap m) (X₀ : (Mine.hd.heap_1 w.params).In h₀) (N : News h₀ L s.heap ((e, excO 45 t) :: news)) (off : ∀ p ∈ news, p.1 ≠ e)
    (h : ∀ D oD h' tk', Fr h₀ L h' m → News h₀ L h' ((D, oD) :: (e, { excO 45 t with dict := some D }) :: news) → (∀ p ∈ (e, excO 45 t) :: news, p.1 < D) → Q () { s with heap := h', toks := tk' }) :
    wpAny (model prg w) A (setAttr (.ref e) (Str.ofString "message") v) Q E s :=
  set_plain (X₀.keeps F.keep) (C := 45) (ox := excO 45 t) (od := none) ⟨(N _ (.head _)).1, rfl, rfl, trivial⟩ (by k_is) (err_osa (s := { s with toks := s.toks + 1 }) F (X₀.keeps F.keep) N off h)
end
end Mine

end
section
open PySem PySem.W PyProof.Rows PySem.Spec PySem.Calls
set_option maxRecDepth 100000
set_option maxHeartbeats 4000000
namespace Mine
noncomputable abbrev errO (dx t : Addr) : Obj := { cls := .ref 45, dict := some dx, data := .fields #[.ref t, .none, .none, .none, .bool false, .none] }
/-- an error of the program's own flies through the frames -/
noncomputable def Flies (base : Heap) (l : List Env) (L : Addr) (m : Str → Option Value) (e : Addr) (h' : Heap) : Prop := (∃ t : Addr, Heap.FlyingW base l e (.ref 45) (.ref t) h') ∧ h'.Ns L m
theorem leave_err {M : Model} {A : Around} {E : Value → Shared → Prop} {s : Shared} {base h₀ g : Heap} {outer : List Env} {L L₀ e dx t : Addr} {m m₀ : Str → Option Value} {env : Env} {led : Led} {Q : Unit → Shared → Prop}
    (K : Below A base outer g) (FG : Fr h₀ L₀ g m₀) (F : Fr g L s.heap m) (N : News g L s.heap led) (hm : (e, errO dx t) ∈ led) (hf : env.frame = some L) (hk : env.scope.kind = .function)
    (hQ : ∀ h', Flies base outer L₀ m₀ e h' → Q () { s with heap := h' }) : wpAny M (A.deeper env) (leaving env (.ref e)) Q E s := by
  have he := N _ hm
  have hkb : base.StaysIn s.heap := fun b o q => F.keep b o (K.stays b o q)
  have hen : base.get? e = none := fresh_of_stays K.stays he.2.2
  have hfr : s.heap.FunFrames base (env :: outer) := by
    obtain ⟨oL, es, ep, hL, hLd, _⟩ := F.ns
    refine ⟨by rw [hk]; decide, ⟨L, oL, hf, fresh_of_stays K.stays (kts_self F), hL, fun vs q => by rw [hLd] at q; cases q⟩, K.frames.of_keeps fun b o q _ => ⟨o, F.keep b o q, rfl⟩⟩
  refine wpAny_leaving_firstW (a0 := .ref t) (Around.frames_deeper K.stack) hfr hf he.1 hkb hen rfl rfl rfl fun h' hL => ?_
  obtain ⟨k1, ⟨_, _, k2⟩, k3, k4⟩ := hL
  exact hQ h' ⟨⟨t, k1, hen, k2, k3⟩, ((Heap.UpToSlots.of_keeps F.keep).trans k4).ns FG.ns⟩
/-- what a call of the def at f hands back, or that it raises an error of the program's own -/
noncomputable def SaysB (w : World) (f : Addr) (dd uu : Nat) (news : Led) (vs : List Value) (Post : Led → Value → Prop) (Bad : Prop) : Prop :=
  ∀ (mean : ExcName → Option Value) (mg mb : Str → Option Value) (dp un : Nat) (gd : Option (List Code)) (cn : Str) (cs : Scope) (a : Addr) (ccd : Value) (cl : List (Str × Addr)) (outer : List Env) (A₀ : Around) (base h₀ : Heap) (L : Addr) (m : Str → Option Value) (s : Shared)
    (Q E : Value → Shared → Prop),
    Below A₀ base outer h₀ → Fr h₀ L s.heap m → (Mine.hd.heap_1 w.params).In h₀ → News h₀ L s.heap news → Top vw lse mean mg mb h₀ → cs.kind = .function → dp + dd < recursionLimit → un + uu < cLine →
    (∀ r tl h' tk', Fr h₀ L h' m → News h₀ L h' (news ++ tl) → (∀ q ∈ news, ∀ p ∈ tl, q.1 < p.1) → Post (news ++ tl) r → Q r { s with heap := h', toks := tk' }) →
    (∀ e h' tk', Bad → Flies base (envX cn cs L a ccd cl :: outer) L m e h' → E (.ref e) { s with heap := h', toks := tk' }) →
    wpAny (model prg w) (ktrTop dp un gd cn cs L a ccd cl outer) (call (.ref f) vs) Q E s
theorem SaysB.says {w : World} {f : Addr} {dd uu : Nat} {news : Led} {vs : List Value} {Post : Led → Value → Prop} {Bad : Prop} (H : SaysB w f dd uu news vs Post Bad) (hb : ¬ Bad) : Says w f dd uu news vs Post := by
  intro mean mg mb dp un gd cn cs a ccd cl outer A₀ base h₀ L m s Q E B F X N T hk hd hu ret
  exact H mean mg mb dp un gd cn cs a ccd cl outer A₀ base h₀ L m s Q E B F X N T hk hd hu ret fun e h' tk' b => absurd b hb
/-- the same where only the value counts behind it -/
noncomputable def SaysT (w : World) (f : Addr) (dd uu : Nat) (news : Led) (vs : List Value) (v : Value) : Prop :=
  ∀ (mean : ExcName → Option Value) (mg mb : Str → Option Value) (dp un : Nat) (gd : Option (List Code)) (cn : Str) (cs : Scope) (a : Addr) (ccd : Value) (cl : List (Str × Addr)) (outer : List Env) (A₀ : Around) (base h₀ : Heap) (L : Addr) (m : Str → Option Value) (s : Shared)
    (Q E : Value → Shared → Prop),
    Below A₀ base outer h₀ → Fr h₀ L s.heap m → (Mine.hd.heap_1 w.params).In base → News h₀ L s.heap news → Top vw lse mean mg mb base → cs.kind = .function → dp + dd < recursionLimit → un + uu < cLine →
    (∀ h' tk', base.StaysIn h' → Q v { s with heap := h', toks := tk' }) →
    wpAny (model prg w) (ktrTop dp un gd cn cs L a ccd cl outer) (call (.ref f) vs) Q E s
noncomputable def ErrIn (l : Led) (r : Value) : Prop := ∃ (e dx t : Addr), r = .ref e ∧ (e, errO dx t) ∈ l
theorem masks_some {bits : Nat} {d : Wish} (hb : bits ≤ 8) (ok : d.ok bits) : 1 ≤ (d.masks bits).length := by
  cases d with
  | mask v m => exact Nat.le_refl 1
  | range lo hi =>
    obtain ⟨h0, h1, h2⟩ := ok
    rcases Nat.eq_zero_or_pos (Wish.masks bits (.range lo hi)).length with h | h
    · exfalso
      have e : rm bits lo hi = [] := List.length_eq_zero_iff.mp h
      have q := rm_nums hb h0 h2 h1
      rw [e] at q
      have := congrArg List.length q
      simp at this
      omega
    · exact h
theorem entry_some {d : WD} (ok : WD.ok d) : ∀ e ∈ d.entries, 1 ≤ (e.2.masks (bitsOf e.1)).length := by
  intro e he
  obtain ⟨i, hi⟩ := List.getElem?_of_mem he
  obtain ⟨k, y⟩ := e
  rcases WD.entry_at hi with ⟨h4, hy⟩ | ⟨h7, hy⟩
  · dsimp only at h4 hy; subst h4; exact masks_some (bits := 3) (by decide) (ok.1 _ hy)
  · dsimp only at h7 hy; subst h7; exact masks_some (bits := 8) (by decide) (ok.g.2 _ hy)
theorem fold_grows : ∀ (es : List (Int × Wish)) (f : List WD), (∀ e ∈ es, 1 ≤ (e.2.masks (bitsOf e.1)).length) → f.length ≤ (es.foldl mstep f).length
  | [], f, _ => Nat.le_refl _
  | e :: r, f, h => by
    refine Nat.le_trans ?_ (fold_grows r (mstep f e) fun x hx => h x (.tail _ hx))
    rw [mstep_length]
    exact Nat.le_mul_of_pos_right _ (h e (.head _))
theorem not_MOk {d : WD} {i : Nat} {e : Int × Wish} {most : Int} (ok : WD.ok d) (hq : d.entries[i]? = some e) (h : most < ((d.masked i).length : Int) * ((e.2.masks (bitsOf e.1)).length : Int)) : ¬ MOk d most := by
  rintro (h0 | h1)
  · rw [h0] at hq; cases hq
  · have a : (d.masked (i + 1)).length ≤ d.maskeds.length := by
      have : d.maskeds = (d.entries.drop (i + 1)).foldl mstep (d.masked (i + 1)) := by
        unfold WD.maskeds WD.masked
        rw [← List.foldl_append, List.take_append_drop]
      rw [this]
      exact fold_grows _ _ fun x hx => entry_some ok x (List.mem_of_mem_drop hx)
    rw [masked_succ hq, mstep_length] at a
    have : ((d.masked i).length * (e.2.masks (bitsOf e.1)).length : Nat) ≤ (d.maskeds.length : Int) := by exact_mod_cast a
    rw [Int.natCast_mul] at this
    omega
theorem masked_few {d : WD} {n : Nat} {most : Int} (hn : n = d.entries.length) (hle : 0 < n → ((d.masked n).length : Int) ≤ most) (hm : most ≤ 1000) : d.maskeds.length ≤ 1000 := by
  subst hn
  rw [masked_all] at hle
  rcases Nat.eq_zero_or_pos d.entries.length with h | h
  · have : d.maskeds = [WD0] := by unfold WD.maskeds; rw [List.length_eq_zero_iff.mp h]; rfl
    rw [this]; exact Nat.le_of_ble_eq_true rfl
  · have := hle h; omega
theorem masked_MOk {d : WD} {n : Nat} {most : Int} (hn : n = d.entries.length) (hle : 0 < n → ((d.masked n).length : Int) ≤ most) : MOk d most := by
  subst hn
  rw [masked_all] at hle
  rcases Nat.eq_zero_or_pos d.entries.length with h | h
  · exact .inl (List.length_eq_zero_iff.mp h)
  · exact .inr (hle h)
end Mine

end
section
open PySem PySem.W PyProof.Rows PySem.Spec PySem.Calls
set_option maxRecDepth 100000
set_option maxHeartbeats 4000000
namespace Mine
noncomputable def RaisesX (w : World) (E : Value → Shared → Prop) (v : Value) (s₁ : Shared) : Prop := ∃ e dx t, v = .ref e ∧ (Mine.hd.heap_1 w.params).In s₁.heap ∧ s₁.heap.get? e = some (errO dx t) ∧ E (.ref e) s₁
section
variable {A : Around} {E : Value → Shared → Prop} {s : Shared} {env : Env}
variable {nm q : Str} {C N : Addr} {bs bm : List Value} {hdct : Bool} {sn : List Str} {sub : List Value} {ab : Bool} {col : Option Bool} {dd : Option Addr} {k0 k1 k2 k3 k5 : Option Value} {newId : String}
theorem raise_err {M : Model} {s : Shared} {e dx t : Addr} {Q : Flow → Shared → Prop} (hcB : (Value.ref C :: bm).contains (.type "BaseException") = true) (hh : A.handled = none)
    (hC : s.heap.get? C = some (excClassObj nm q C N bs bm hdct sn sub ab col dd k0 k1 k2 k3 k5 newId)) (he : s.heap.get? e = some { cls := .ref C, dict := some dx, data := .fields #[.ref t, .none, .none, .none, .bool false, .none] }) (hE : E (.ref e) s) :
    wpAny M A (raiseStmt env (some (pure (.ref e))) none) Q E s := by
  unfold raiseStmt
  refine wpAny_bind (wpAny_pure ?_)
  obtain ⟨hp, g, d, tk, os⟩ := s
  repeat (first | with_reducible refine wpAny_loadPart_at he ?_ | with_reducible refine wpAny_loadPart_at hC ?_ | (with_reducible refine wpAny_isSubtype_exc hC ?_; rw [hcB]) | wp_step)
  exact wpAny_raiseNew_none hh hE
theorem Raise_err {w : World} {e : Expr} {pos : Pos} {Q : Flow → Shared → Prop} (hh : A.handled = none)
    (h : wpAny (model prg w) A (eval e env) (RaisesX w E) E s) : wpAny (model prg w) A (exec (.Raise (some e) none pos) env) Q E s := by
  show wpAny _ A (do standAt pos; raiseStmt env (some (do let v ← eval e env; standAt pos; pure v)) none) Q E s
  refine wpAny_bind (wpAny_standAt ?_)
  have key : ∀ x : Value, ∀ s₁, RaisesX w E x s₁ → wpAny (model prg w) A (raiseStmt env (some (pure x)) none) Q E s₁ := by
    rintro x s₁ ⟨e, dx, t, rfl, X, he, hE⟩
    exact raise_err (bm := [.ref 32, .type "Exception", .type "BaseException", .type "object"]) (by decide) hh (X 45 _ (by with_unfolding_all rfl)) he hE
  have e1 : raiseStmt env (some (do let v ← eval e env; standAt pos; pure v)) none = (do let v ← eval e env; standAt pos; raiseStmt env (some (pure v)) none) := by
    unfold raiseStmt
    simp only [bind_assoc, pure_bind]
  rw [e1]
  refine wpAny_bind (wpAny_mono h (fun v s₁ h₁ => wpAny_bind (wpAny_standAt ?_)) fun _ _ x => x)
  exact key v s₁ h₁
end
end Mine

end
section
open PySem PySem.W PyProof.Rows PySem.Spec PySem.Calls
open LCg (NsObj ns_obj lst lst_snoc Off3)
set_option maxRecDepth 100000
namespace Mine
theorem WD.entries_len (d : WD) : d.entries.length ≤ 2 := by rcases d with ⟨_ | a, _ | b⟩ <;> exact Nat.le_of_ble_eq_true rfl
inductive ToldT (act : Str) (news tl : Led) (r : Value) (es : List (Int × Wish)) : Prop
  | of9 : ∀ (a T : Addr) (n k : Nat) (t : Tok) (vs : List Value), (r = .ref a) → ((a, tupO [.str act t, .ref T] n) ∈ tl) → ((T, tupO vs k) ∈ tl) → (All2 (EntryIn (news ++ tl)) vs es) → ToldT act news tl r es
section
variable {prog : Program} {w : World} {A : Around} {s s₁ : Shared} {h₀ : Heap} {L : Addr} {m : Str → Option Value} {env cenv : Env} {E : Value → Shared → Prop} {scope : Scope} {cl : List (Str × Addr)} {I C D : Addr} {oI oC : Obj} {ys : List Value} {mC : Str → Option Value}
/-- the state of an inner loop over the ledger NX -/
inductive CK (C D : Addr) (NX : Led) (P : Nat → List Value → Led → Prop) (i : Nat) (ys : List Value) (nx : Led) : Prop
  | of9 : ∀ tl, (nx = NX ++ tl) → (Above NX tl) → (∀ p ∈ tl, C < p.1 ∧ D < p.1) → (P i ys (NX ++ tl)) → CK C D NX P i ys nx
noncomputable def NK (I : Addr) (oI : Obj) (C D : Addr) (NX : Led) (P : Nat → List Value → Led → Prop) (i : Nat) (ys : List Value) (nx' : Led) : Prop := ∃ nx, nx' = (I, oI) :: nx ∧ Off3 I C D nx ∧ CK C D NX P i ys nx
theorem off3_of {NX tl : Led} (off : Off3 I C D NX) (h1 : ∀ p ∈ tl, I < p.1) (h2 : ∀ p ∈ tl, C < p.1 ∧ D < p.1) : Off3 I C D (NX ++ tl) := Off3.of fun p hp => by
  rcases List.mem_append.mp hp with hp | hp
  · exact off.mem p hp
  · exact ⟨Nat.ne_of_gt (h1 p hp), Nat.ne_of_gt (h2 p hp).1, Nat.ne_of_gt (h2 p hp).2⟩
end
end Mine
namespace Mine
section
variable {prog : Program} {w : World} {A : Around} {s s₁ : Shared} {h₀ : Heap} {L : Addr} {m : Str → Option Value} {env cenv : Env} {E : Value → Shared → Prop} {scope : Scope} {cl : List (Str × Addr)} {I C D : Addr} {oI oC : Obj} {ys : List Value} {nx : Led} {mC : Str → Option Value}
theorem unpack_list2 {l : Addr} {x y : Value} {Q : List Value → Shared → Prop} (hh : A.handled = none) (hl : s.heap.IsList l #[x, y])
    (hQ : ∀ h', Heap.ExtBut s.heap.objs.size s.heap h' → Q [x, y] { s with heap := h' }) : wpAny (model prog w) A (unpackItems (.ref l) 2 none) Q E s := by
  have hlt : l ≠ s.heap.objs.size := by obtain ⟨o, ho, _⟩ := hl; exact Nat.ne_of_lt (Heap.lt_size ho)
  unfold unpackItems
  refine wpAny_bind ?_
  unfold notIterableAtAll
  refine wpAny_bind (wpAny_specialOf hl.typeIs F.slot_list_iter.lookup ?_)
  refine wpAny_pure ?_
  simp only [Bool.false_eq_true, if_false]
  refine wpAny_bind (wpAny_holding (wpAny_pyIter_list hl ?_))
  refine wpAny_bind (wpAny_holding ?_)
  show wpAny _ _ (pyNext _ >>= _) _ _ _
  refine wpAny_bind (wpAny_pyNext_list_item (i := 0) ⟨_, Heap.get?_push_size _ rfl, rfl, rfl⟩ (hl.push _) (x := x) rfl fun h₁ hit₁ hs₁ => ?_)
  have hl₁ := (hl.push { cls := .type "list_iterator", data := .fields #[.ref l, .int 0 0] }).at fun o e => hs₁.extBut l o hlt e
  refine wpAny_bind (wpAny_holding ?_)
  show wpAny _ _ (pyNext _ >>= _) _ _ _
  refine wpAny_bind (wpAny_pyNext_list_item (i := 1) hit₁ hl₁ (x := y) rfl fun h₂ hit₂ hs₂ => ?_)
  have hl₂ := hl₁.at fun o e => hs₂.extBut l o hlt e
  refine wpAny_bind (wpAny_holding (wpAny_pure ?_))
  refine wpAny_pure (wpAny_pure ?_)
  rw [if_neg (by simp)]
  refine wpAny_bind (wpAny_holding (wpAny_pyNext_list_end hh hit₂ hl₂ rfl fun h₃ hs₃ => ?_))
  simp only [Option.isSome_none, Bool.false_eq_true, if_false]
  exact wpAny_pure (hQ h₃ fun b o hb e => hs₃ b o hb (hs₂.extBut b o hb (hs₁.extBut b o hb (Heap.get?_push_of_some _ e))))
theorem assign_pair_list {a b : Str} {pa pb tp : Pos} {kk : Nat} {l : Addr} {x y : Value} {m : Str → Option Value} {Q : Unit → Shared → Prop} (hh : A.handled = none) (hl : s.heap.IsList l #[x, y])
    (ha : env.kindOf a = some .local) (hb : env.kindOf b = some .local) (hp : (env.scope.kind == .class || (env.scope.kind == .module && env.locals != env.globals)) = false) (hn : s.heap.Ns env.locals m)
    (h : ∀ (h' : Heap) (tk : Nat), h'.Ns env.locals (fun z => if z = b then some y else if z = a then some x else m z) → (∀ c o, c ≠ env.locals → s.heap.get? c = some o → h'.get? c = some o) → Q () { s with heap := h', toks := tk }) :
    wpAny (model prog w) A (assign (.Tuple [.Name a pa, .Name b pb] kk tp) env (.ref l)) Q E s := by
  rw [arm_assign_Tuple]
  refine wpAny_bind (wpAny_standAt ?_)
  unfold unpack
  refine wpAny_bind (wpAny_holding ?_)
  show wpAny _ _ (unpackItems (.ref l) 2 none) _ _ _
  refine unpack_list2 hh hl fun h₁ he₁ => ?_
  have hL : env.locals ≠ s.heap.objs.size := Nat.ne_of_lt hn.lt
  have hn₁ : h₁.Ns env.locals m := hn.at' fun o e => he₁ _ o hL e
  have up₁ : ∀ c o, s.heap.get? c = some o → h₁.get? c = some o := fun c o e => he₁ c o (Nat.ne_of_lt (Heap.lt_size e)) e
  show wpAny _ _ (assignInOrder [assign (.Name a pa) env, assign (.Name b pb) env] [x, y]) _ _ _
  refine assignInOrder_cons (wpAny_assign_Name (wpAny_storeName_local ha hn₁ (fun h₂ hn₂ hs₂ => ?_) hp))
  refine assignInOrder_cons (wpAny_assign_Name (wpAny_storeName_local hb hn₂ (fun h₃ hn₃ hs₃ => ?_) hp))
  exact assignInOrder_nil (h h₃ _ hn₃ fun c o hc e => hs₃.extBut c o hc (hs₂.extBut c o hc (up₁ c o e)))
theorem assign_compL {a b : Str} {pa pb tp : Pos} {kk : Nat} {T : Addr} {x y : Value} {n : Nat} {Q : Unit → Shared → Prop} (hh : A.handled = none) (hm : (T, listOf [x, y].toArray n) ∈ nx) (hkind : scope.kind = .function) (ha : scope.names.lookup a = some .local) (hb : scope.names.lookup b = some .local) (hab : a ≠ b)
    (tr : Trip I C D) (off : Off3 I C D nx) (F : Fr h₀ L s.heap m) (hC : NsObj oC mC) (N : News h₀ L s.heap ((I, oI) :: (C, oC) :: (D, lst ys) :: nx))
    (h : ∀ h' oC' mC' tk, Fr h₀ L h' m → NsObj oC' mC' → mC' a = some x → mC' b = some y → News h₀ L h' ((I, oI) :: (C, oC') :: (D, lst ys) :: nx) → Q () { s with heap := h', toks := tk }) :
    wpAny (model prog w) A (assign (.Tuple [.Name a pa, .Name b pb] kk tp) (compEnvC scope cl C env) (.ref T)) Q E s := by
  have zC := N (C, oC) (.tail _ (.head _))
  have zT := N (T, listOf [x, y].toArray n) (.tail _ (.tail _ (.tail _ hm)))
  refine assign_pair_list hh ⟨_, zT.1, rfl, n, rfl⟩ (lookup_relabel_local ha) (lookup_relabel_local hb) (by simp [compEnvC, relabel, hkind]) (hC.ns zC.1) fun h' tk hn hk => ?_
  obtain ⟨oC', heC, hC'⟩ := ns_obj hn
  have hL : L ≠ C := Ne.symm zC.2.1
  have F' : Fr h₀ L h' m := ⟨F.ns.at' fun o e => hk L o hL e, fun b o e => hk b o (fun q => by have q2 : b = C := q; subst q2; have := zC.2.2; dsimp only at this; rw [e] at this; cases this) (F.keep b o e), F.above⟩
  refine h h' oC' _ tk F' hC' (by simp [hab]) (by simp) fun p hp => ?_
  rcases List.mem_cons.mp hp with rfl | hp
  · have z := N (I, oI) (.head _)
    exact ⟨hk _ _ tr.1 z.1, z.2⟩
  rcases List.mem_cons.mp hp with rfl | hp
  · exact ⟨heC, zC.2⟩
  rcases List.mem_cons.mp hp with rfl | hp
  · have z := N (D, lst ys) (.tail _ (.tail _ (.head _)))
    exact ⟨hk _ _ (Ne.symm tr.2.2) z.1, z.2⟩
  · have z := N p (.tail _ (.tail _ (.tail _ hp)))
    exact ⟨hk _ _ (off.mem p hp).2.1 z.1, z.2⟩
/-- a turn whose item is a list of two -/
theorem CTurn.mapL2 {elt iter : Expr} {a b : Str} {pa pb tp pos : Pos} {kk : Nat} {T : Addr} {x y : Value} {n : Nat} {J : List Value → Led → Prop} (hh : A.handled = none) (hm : (T, listOf [x, y].toArray n) ∈ nx) (hkind : scope.kind = .function) (ha : scope.names.lookup a = some .local) (hb : scope.names.lookup b = some .local) (hab : a ≠ b)
    (tr : Trip I C D) (off : Off3 I C D nx) (F : Fr h₀ L s.heap m) (hC : NsObj oC mC) (N : News h₀ L s.heap ((I, oI) :: (C, oC) :: (D, lst ys) :: nx))
    (h : ∀ h' oC' mC' tk (E' : Value → Shared → Prop), Fr h₀ L h' m → NsObj oC' mC' → mC' a = some x → mC' b = some y → News h₀ L h' ((I, oI) :: (C, oC') :: (D, lst ys) :: nx) → wpAny (model prog w) A (eval elt (compEnvC scope cl C env)) (CEndY h₀ L m I oI C D J s) E' { s with heap := h', toks := tk }) :
    CTurn prog w A h₀ L m (compEnvC scope cl C env) elt (.Tuple [.Name a pa, .Name b pb] kk tp) [] [⟨.Tuple [.Name a pa, .Name b pb] kk tp, iter, [], 0⟩] scope pos 0 I oI C D J (.ref T) s := by
  intro E'
  refine assign_compL hh hm hkind ha hb hab tr off F hC N fun h' oC' mC' tk F' hC' hx hy N' => wpAny_tests_nil ?_
  rw [if_pos rfl]
  exact emit_last rfl tr (h h' oC' mC' _ E' F' hC' hx hy N')
theorem CTurn.filterN {elt ct : Expr} {x : Str} {px pos : Pos} {gens : List Comprehension} {d : Nat} {v : Value} {J : List Value → Led → Prop} (hg : gens[d + 1]? = none) (hkind : scope.kind = .function) (hx : scope.names.lookup x = some .local) (tr : Trip I C D) (off : Off3 I C D nx) (F : Fr h₀ L s.heap m) (hC : NsObj oC mC) (N : News h₀ L s.heap ((I, oI) :: (C, oC) :: (D, lst ys) :: nx))
    (h : ∀ h' oC' mC' tk (E' : Value → Shared → Prop), Fr h₀ L h' m → NsObj oC' mC' → mC' x = some v → (∀ z, z ≠ x → mC' z = mC z) → News h₀ L h' ((I, oI) :: (C, oC') :: (D, lst ys) :: nx) →
      wpAny (model prog w) A (isTrue ct (compEnvC scope cl C env) (eval ct (compEnvC scope cl C env))) (fun ok s₃ => if ok = true then wpAny (model prog w) A (eval elt (compEnvC scope cl C env)) (CEndY h₀ L m I oI C D J s) E' s₃ else CEnd h₀ L m I oI C D J s s₃) E' { s with heap := h', toks := tk }) :
    CTurn prog w A h₀ L m (compEnvC scope cl C env) elt (.Name x px) [ct] gens scope pos d I oI C D J v s := by
  intro E'
  refine assign_comp hkind hx tr off F hC N fun h' oC' mC' F' hC' hx' hr N' => wpAny_tests_one (wpAny_mono (h h' oC' mC' _ E' F' hC' hx' hr N') (fun ok s₃ h₃ => ?_) fun _ _ e => e)
  cases ok with
  | false => exact h₃
  | true => exact emit_last hg tr h₃
theorem CEnd.same {I' : Addr} {oI' oC' : Obj} {NX led : Led} {J : List Value → Prop} {h' : Heap} {tk : Nat} {m' : Str → Option Value} (F : Fr h₀ L h' m) (hC : NsObj oC' m') (N : News h₀ L h' led) (sub : ∀ p ∈ (I', oI') :: (C, oC') :: (D, lst ys) :: (I, oI) :: NX, p ∈ led) (off1 : Off3 I' C D ((I, oI) :: NX)) (off2 : Off3 I C D NX) (hp : J ys) :
    CEnd h₀ L m I' oI' C D (NJ I oI C D NX J) s₁ { s₁ with heap := h', toks := tk } :=
  ⟨h', tk, ys, (I, oI) :: NX, oC', m', rfl, F, hC, fun p hp => N p (sub p hp), off1, NX, rfl, off2, rfl, hp⟩
/-- the source of an inner generator, a tuple of the ledger -/
inductive NSrcT (prog : Program) (w : World) (A : Around) (h₀ : Heap) (L : Addr) (m : Str → Option Value) (cenv : Env) (elt target : Expr) (ifs : List Expr) (gens : List Comprehension) (scope : Scope) (pos : Pos) (d : Nat) (I : Addr) (oI : Obj) (C D : Addr) (J : List Value → Led → Prop) (s₁ : Shared) (xv : Value) (s₂ : Shared) : Prop
  | of9 : ∀ l vs k ys nx oC mC, ∀ J' : Nat → List Value → Led → Prop, (xv = .ref l) → (A.handled = none) → (∃ hh tk, s₂ = { s₁ with heap := hh, toks := tk }) → ((l, tupO vs k) ∈ nx) → (Fr h₀ L s₂.heap m) → (NsObj oC mC) → (News h₀ L s₂.heap ((I, oI) :: (C, oC) :: (D, lst ys) :: nx)) → (Trip I C D) → (Off3 I C D nx) → (J' 0 ys nx) → (∀ j ys nx, J' j ys nx → (l, tupO vs k) ∈ nx) → (∀ j v ys nx h tk I' oI' oC mC, vs[j]? = some v → J' j ys nx → I < I' → Off3 I' C D ((I, oI) :: nx) → Off3 I C D nx → Trip I' C D → Fr h₀ L h m → NsObj oC mC → News h₀ L h ((I', oI') :: (C, oC) :: (D, lst ys) :: (I, oI) :: nx) → CTurn prog w A h₀ L m cenv elt target ifs gens scope pos (d + 1) I' oI' C D (fun ys nx' => ∃ nx, nx' = (I, oI) :: nx ∧ Off3 I C D nx ∧ J' (j + 1) ys nx) v { s₁ with heap := h, toks := tk }) → (∀ ys nx, J' vs.length ys nx → J ys nx) → NSrcT prog w A h₀ L m cenv elt target ifs gens scope pos d I oI C D J s₁ xv s₂
theorem tuple_st' {ax I : Addr} {vs : List Value} {k : Nat} : ∀ i (h h' : Heap) (o : Obj) (nw : Led), (h.IsTupleIter I ax i ∧ h.IsTuple ax vs.toArray) → h.get? I = some o → h'.get? I = some o → (∀ b o, h₀.get? b = some o → h'.get? b = some o) → News h₀ L h' nw → (ax, tupO vs k) ∈ nw → (h'.IsTupleIter I ax i ∧ h'.IsTuple ax vs.toArray) :=
  fun i h h' o nw st e e' kp N S => ⟨by obtain ⟨o', q, r⟩ := st.1; rw [e] at q; cases q; exact ⟨o, e', r⟩, ⟨_, (N _ S).1, rfl, k, rfl⟩⟩
theorem emit_nextT {elt : Expr} {gens : List Comprehension} {scope : Scope} {pos : Pos} {d : Nat} {I C D : Addr} {oI : Obj} {J : List Value → Led → Prop} {target iter : Expr} {ifs : List Expr} (hg : gens[d + 1]? = some ⟨target, iter, ifs, 0⟩) (ha : ∀ g', gens[d + 1 + 1]? = some g' → g'.is_async = 0)
    (h : wpAny (model prog w) A (eval iter cenv) (NSrcT prog w A h₀ L m cenv elt target ifs gens scope pos d I oI C D J s₁) E s)
    (hs : ∀ x, foldedSetIterable iter cenv x = pure x) :
    wpAny (model prog w) A (emitAt elt gens scope pos d (.ref D) cenv) (fun _ s₂ => CEnd h₀ L m I oI C D J s₁ s₂) E s := by
  unfold emitAt
  rw [hg]
  refine wpAny_bind (wpAny_mono h (fun xv s₂ h₂ => wpAny_bind (wpAny_standAt (wpAny_bind (wpAny_of_eq (hs xv) ?_)))) fun _ _ e => e)
  obtain ⟨l, vs, k, ys, nx, oC, mC, J', rfl, hh, ⟨hp2, tk2, rfl⟩, hm, F, hC, N, tr, off, j0, hS, turn, done⟩ := h₂
  have zI := N (I, oI) (.head _)
  have zC := N (C, oC) (.tail _ (.head _))
  have zD := N (D, lst ys) (.tail _ (.tail _ (.head _)))
  have hol := (N _ (.tail _ (.tail _ (.tail _ hm)))).1
  have hls : hp2.IsTuple l vs.toArray := ⟨_, hol, rfl, k, rfl⟩
  have hlt : l < hp2.objs.size := Heap.lt_size hol
  refine wpAny_bind (wpAny_holding (wpAny_pyIter_tuple hls ?_))
  have W := Walks.tuple (prog := prog) (w := w) hh hp2.objs.size l (Nat.ne_of_lt hlt) vs.toArray
  have hlen : vs.toArray.size = vs.length := by simp
  rw [hlen] at W
  have up : ∀ b o, hp2.get? b = some o → (hp2.push { cls := .type "tuple_iterator", data := .fields #[.ref l, .int 0 0] }).get? b = some o := fun b o e => Heap.get?_push_of_some _ e
  have trI : Trip hp2.objs.size C D := ⟨Nat.ne_of_gt (Heap.lt_size zC.1), Nat.ne_of_gt (Heap.lt_size zD.1), tr.2.2⟩
  have offI : Off3 hp2.objs.size C D ((I, oI) :: nx) := Off3.of fun p hp => by
    rcases List.mem_cons.mp hp with rfl | hp
    · exact ⟨Nat.ne_of_lt (Heap.lt_size zI.1), tr.1, tr.2.1⟩
    · exact ⟨Nat.ne_of_lt (Heap.lt_size (N p (.tail _ (.tail _ (.tail _ hp)))).1), (off.mem p hp).2⟩
  have hIlt : I < hp2.objs.size := Heap.lt_size zI.1
  have st0 : (hp2.push { cls := .type "tuple_iterator", data := .fields #[.ref l, .int 0 0] }).IsTupleIter hp2.objs.size l 0 ∧ (hp2.push { cls := .type "tuple_iterator", data := .fields #[.ref l, .int 0 0] }).IsTuple l vs.toArray := ⟨⟨_, Heap.get?_push_size _ rfl, rfl, rfl⟩, hls.push _⟩
  refine wpAny_bind (wpAny_runOwn ?_)
  have loop : codeAny (model prog w) A (.compLoop (.ListComp elt gens scope pos) (d + 1) (.ref hp2.objs.size) (.ref D) cenv)
      (fun r s' => match r with | .ok f => wpAny (model prog w) A (pure ()) (fun _ s₂ => CEnd h₀ L m I oI C D J s₁ s₂) E s' | .error e => cameBackBy (model prog w) A cenv E e s')
      { ({ s₁ with heap := hp2, toks := tk2 } : Shared) with heap := hp2.push { cls := .type "tuple_iterator", data := .fields #[.ref l, .int 0 0] } } := by
    refine comp_level (S := fun nw => (l, tupO vs k) ∈ nw) (cn := "tuple_iterator") (C := C) (oC₀ := oC) (m₀ := mC) (ys₀ := ys) (nx₀ := (I, oI) :: nx) hg ha W (fun i h st => by obtain ⟨o, e, r⟩ := st.1; exact ⟨o, e, r.1⟩) (by decide) tuple_st' st0 (F.keeps up) hC ?_ (Nat.ne_of_lt F.ns.lt) (next_is_new F) offI trI
      (fun j ys nx' => ∃ nx, nx' = (I, oI) :: nx ∧ Off3 I C D nx ∧ J' j ys nx) ⟨nx, rfl, off, j0⟩ ?_ ?_ ?_
    · intro p hp
      rcases List.mem_cons.mp hp with rfl | hp
      · exact ⟨up _ _ zC.1, zC.2⟩
      rcases List.mem_cons.mp hp with rfl | hp
      · exact ⟨up _ _ zD.1, zD.2⟩
      rcases List.mem_cons.mp hp with rfl | hp
      · exact ⟨up _ _ zI.1, zI.2⟩
      · have z := N p (.tail _ (.tail _ (.tail _ hp))); exact ⟨up _ _ z.1, z.2⟩
    · rintro j ys nx' ⟨nx, rfl, _, hj⟩
      exact .tail _ (hS j ys nx hj)
    · rintro j v ys nx' h tk oI' oC mC hi hP ⟨nx, rfl, off', hj⟩ offn F' hC' N'
      exact turn j v ys nx h tk _ oI' oC mC (by simpa using hP) hj hIlt offn off' trI F' hC' N'
    · rintro ys nx' h tk oC mC ⟨nx, rfl, off', hj⟩ offn F' hC' N'
      refine wpAny_pure ⟨h, tk, ys, nx, oC, mC, rfl, F', hC', fun p hp => N' p ?_, off', done ys nx hj⟩
      simp only [List.mem_cons] at hp ⊢
      rcases hp with h | h | h | h <;> simp [h]
  exact compStart_at hg loop (W.self 0 _ _ _ st0 loop)
theorem NSrcT.mkCJ {elt target : Expr} {ifs : List Expr} {gens : List Comprehension} {pos : Pos} {d : Nat} {l : Addr} {vs : List Value} {k : Nat} {led led9 nx₀ tl tl' : Led} {P : Nat → List Value → Led → Prop} {i1 : Nat} (J' : Nat → List Value → Prop) (F : Fr h₀ L s.heap m) (N : News h₀ L s.heap led) (hh : A.handled = none) (he : ∃ hh tk, s = { s₁ with heap := hh, toks := tk })
    (off : Off3 I C D (nx₀ ++ tl)) (o1 : Above nx₀ tl) (o9 : ∀ q ∈ led9, ∀ p ∈ tl', q.1 < p.1) (s9 : ∀ q ∈ (I, oI) :: (C, oC) :: (D, lst ys) :: nx₀, q ∈ led9)
    (hsub : ∀ p ∈ (I, oI) :: (C, oC) :: (D, lst ys) :: (nx₀ ++ (tl ++ tl')), p ∈ led) (hm : (l, tupO vs k) ∈ nx₀ ++ (tl ++ tl')) (hC : NsObj oC mC) (tr : Trip I C D) (j0 : J' 0 ys)
    (turn : ∀ (j : Nat) (v : Value) (ys : List Value) (h : Heap) (tk : Nat) (I' : Addr) (oI' oC : Obj) (mC : Str → Option Value), vs[j]? = some v → J' j ys → I < I' → Off3 I' C D ((I, oI) :: (nx₀ ++ (tl ++ tl'))) → Off3 I C D (nx₀ ++ (tl ++ tl')) → Trip I' C D → Fr h₀ L h m → NsObj oC mC → News h₀ L h ((I', oI') :: (C, oC) :: (D, lst ys) :: (I, oI) :: (nx₀ ++ (tl ++ tl'))) →
      CTurn prog w A h₀ L m (compEnvC scope cl C env) elt target ifs gens scope pos (d + 1) I' oI' C D (NJ I oI C D (nx₀ ++ (tl ++ tl')) (J' (j + 1))) v { s₁ with heap := h, toks := tk })
    (done : ∀ ys, J' vs.length ys → P i1 ys (nx₀ ++ (tl ++ tl'))) : NSrcT prog w A h₀ L m (compEnvC scope cl C env) elt target ifs gens scope pos d I oI C D (CJ nx₀ P i1) s₁ (.ref l) s := by
  have o2 := ord_sub o9 s9
  have off' : Off3 I C D (nx₀ ++ (tl ++ tl')) := off3_app off fun p hp => ⟨Nat.ne_of_gt (o2 _ (.head _) p hp), Nat.ne_of_gt (o2 _ (.tail _ (.head _)) p hp), Nat.ne_of_gt (o2 _ (.tail _ (.tail _ (.head _))) p hp)⟩
  refine ⟨l, vs, k, ys, nx₀ ++ (tl ++ tl'), oC, mC, fun j ys nx => nx = nx₀ ++ (tl ++ tl') ∧ J' j ys, rfl, hh, he, hm, F, hC, fun p hp => N p (hsub p hp), tr, off', ⟨rfl, j0⟩, fun j ys nx e => e.1 ▸ hm, ?_, ?_⟩
  · rintro j v ys nx h tk I' oI' oC mC hv ⟨rfl, hj⟩ hlt off1 off2 tr' F' hC' N'
    exact turn j v ys h tk I' oI' oC mC hv hj hlt off1 off2 tr' F' hC' N'
  · rintro ys nx ⟨rfl, hj⟩
    exact ⟨tl ++ tl', rfl, ord_app o1 (ord_sub o2 fun _ h => .tail _ (.tail _ (.tail _ h))), done ys hj⟩
theorem WishIn.dropC {l l' : Led} {v : Value} {x : Wish} (h : WishIn l v x) (s : ∀ p ∈ l, p ∈ l' ∨ ∀ vs k, p.2 ≠ tupO vs k) : WishIn l' v x := by
  cases h with
  | mask h => exact .mask ((s _ h).elim id fun q => absurd rfl (q _ _))
  | range h => exact .range ((s _ h).elim id fun q => absurd rfl (q _ _))
theorem EntryIn.dropC {l l' : Led} {v : Value} {e : Int × Wish} (h : EntryIn l v e) (s : ∀ p ∈ l, p ∈ l' ∨ ∀ vs k, p.2 ≠ tupO vs k) : EntryIn l' v e := by
  obtain ⟨b, n, t, wv, e, h, hw⟩ := h
  exact ⟨b, n, t, wv, e, (s _ h).elim id fun q => absurd rfl (q _ _), hw.dropC s⟩
theorem EntryIn.move {l : Led} {v : Value} {e : Int × Wish} (h : EntryIn ((I, oI) :: (C, oC) :: (D, lst ys) :: l) v e) (hC : NsObj oC mC) : EntryIn ((I, oI) :: l) v e := h.dropC fun p hp => by
  rcases List.mem_cons.mp hp with rfl | hp
  · exact .inl (.head _)
  rcases List.mem_cons.mp hp with rfl | hp
  · refine .inr fun vs k q => ?_
    obtain ⟨es, n, hd, _⟩ := hC
    dsimp only at q
    rw [q] at hd
    cases hd
  rcases List.mem_cons.mp hp with rfl | hp
  · exact .inr fun vs k q => absurd (Value.type.inj (congrArg Obj.cls q)) (by decide)
  · exact .inl (.tail _ hp)
end
end Mine

end
section
open PySem PySem.W PyProof.Rows PySem.Spec PySem.Calls
set_option maxRecDepth 100000
set_option maxHeartbeats 4000000
namespace Mine
theorem fill_Err3 : PySem.Challenge.rw_pc0368_01.Holds ∧ Mine.hd.heap_1 = Mine.hd.heap_1 → True := by
  k_fill
  exact fun _ => trivial
noncomputable def Hid (p : Prop) : Prop := p
theorem Hid.mk {p : Prop} (h : p) : Hid p := h
theorem Hid.get {p : Prop} (h : Hid p) : p := h
section
variable {prog : Program} {w : World} {A₀ A : Around} {s : Shared} {base h₀ : Heap} {L a : Addr} {m : Str → Option Value} {news : Led} {K : Frag} {p : Program} {loose : List Str} {mean : ExcName → Option Value} {mg mb : Str → Option Value}
/-- a call of a def with cells, of which the value alone counts -/
theorem code_defT {env : Env} {outer : List Env} {R : Result → Shared → Prop} {name qual : Str} {params : Arguments} {body : List Stmt} {scope : Scope} {dV kV doc pm cdv ct oc : Value} {an od : Option Addr} {osl : Array (Option Value)} {f : Addr} {args : Args} {binds : List (Str × Value)}
    (B : Below A₀ base outer h₀) (F : Fr h₀ L s.heap m) (X₀ : K.In h₀) (N : News h₀ L s.heap news) (T : Top p loose mean mg mb h₀) (hA : A.frames = some (env :: outer)) (hf : env.frame = some L) (hke : env.scope.kind = .function)
    (ho : K.lookup f = some ⟨oc, od, .func (fnOf name qual params body scope dV kV doc pm an cdv ct), osl⟩) (hcd : codeIn K cdv qual = true) (hroom : A.depth < recursionLimit)
    (hbind : BindsTo s (fnOf name qual params body scope dV kV doc pm an cdv ct) args binds) (hkind : (binds.all fun y => scope.names.lookup y.1 == some .local || scope.names.lookup y.1 == some .cell) = true)
    (hnd : ((cellsFrom 0 scope.names []).map (·.1)).Nodup)
    (h : ∀ g L' h₁ tk cells, Fr h₀ L g m → Fr g L' h₁ (bindL (envOfC qual scope L' f cdv).kindOf binds fun _ => none) → News g L' h₁ (cells ++ news) →
      CellsAre (bindC (envOfC qual scope L' f cdv).kindOf binds fun _ => none) (cellsFrom (L' + 1) scope.names []) cells → Below A base (env :: outer) g → K.In g → Top p loose mean mg mb g → (∀ p ∈ news, p.1 < L') →
      wpAny (model prog w) (A.deeper (envOfC qual scope L' f cdv)) (execs body (envOfC qual scope L' f cdv))
        (fun fl s' => R (.ok (.ret (match fl with | .ret v => v | _ => .none))) s')
        (fun e s' => wpAny (model prog w) (A.deeper (envOfC qual scope L' f cdv)) (leaving (envOfC qual scope L' f cdv) e) (fun _ s'' => R (.error e) s'') (fun e' s'' => R (.error e') s'') s')
        { s with heap := h₁, toks := tk })
    (hco : scope.isCoroutine = false) (hgen : scope.isGenerator = false) (hk : scope.kind = .function) : codeAny (model prog w) A (.call (.ref f) args) R s := by
  obtain ⟨FG, BG, st, _⟩ := groundX (R := R) B F N hA hf hke
  refine codeAny_call_function hroom ((X₀.keeps F.keep) _ _ ho) rfl hco hgen rfl (codeRec_of (X₀.keeps F.keep) hcd) (hbind _ _ _ _ ?_)
  refine wpAny_newFunctionEnv_cells hk (kindsX hkind _) fun env' he s' x => ?_
  subst he
  refine ⟨(T.nolimit.keeps F.keep).keeps x.toInCall.keep, codeAny_func ?_⟩
  obtain ⟨h₁, tk, rfl, _⟩ := x.done
  have hk₁ := x.toInCall.keep
  obtain ⟨cells, NC, Y⟩ := Cl.news (h₀ := s.heap) (Nat.le_refl _) fun n c hm => ⟨x.cell n c (lookup_of_mem_nodup (cellsFrom_names scope.names 0 (s.heap.objs.size + 1) [] [] rfl ▸ hnd) hm), x.above n c hm⟩
  refine wpAny_mono (h _ s.heap.objs.size h₁ tk cells FG ⟨x.toInCall.ns, fun b o e => hk₁ b o (of_hideAll _ e), Nat.le_of_eq (hideAll_size _ _)⟩ (fun p hp => ?_) Y BG (X₀.keeps st) (T.keeps st) (fun p hp => Heap.lt_size (N p hp).1)) (fun fl s' hl => hl) fun _ _ y => y
  rcases List.mem_append.mp hp with hp | hp
  · refine ⟨(NC p hp).1, (NC p hp).2.1, ?_⟩
    cases q : (hideAll s.heap (news.map (·.1))).get? p.1 with
    | none => rfl
    | some o => have := of_hideAll _ q; rw [(NC p hp).2.2] at this; cases this
  · exact ⟨hk₁ _ _ (N p hp).1, Nat.ne_of_lt (Heap.lt_size (N p hp).1), hideAll_none _ (List.mem_map_of_mem hp)⟩
end
section
variable {w : World} {A : Around} {E : Value → Shared → Prop} {s' : Shared} {base : Heap} {outer : List Env} {L a e t : Addr} {name : Str} {scope : Scope} {cd : Value} {cl : List (Str × Addr)} {b₀ : Stmt} {suite : List Stmt} {pos np : Pos} {rest : List ExceptHandler} {Q : Flow → Shared → Prop} {mean : ExcName → Option Value} {mg mb : Str → Option Value}
/-- the error is caught by its own name -/
theorem caught_err (hfr : A.frames = some outer) (Fl : Heap.FlyingW base (envX name scope L a cd cl :: outer) e (.ref 45) (.ref t) s'.heap) (X : (Mine.hd.heap_1 w.params).In base) (T : Top vw lse mean mg mb base)
    (k : ∀ h', base.StaysIn h' → wpAny (model prg w) ((A.deeper (envX name scope L a cd cl)).mark (some (.ref e))) (execs (b₀ :: suite) (envX name scope L a cd cl)) Q E { s' with heap := h' })
    (hk : scope.kind = .function) (hx : (envX name scope L a cd cl).kindOf (Str.ofString "TableError") = some .globalImplicit)
    (hE : PassesOwnAt (model prg w) ((A.deeper (envX name scope L a cd cl)).mark (some (.ref e))) (A.deeper (envX name scope L a cd cl)) (envX name scope L a cd cl) E) :
    wpAny (model prg w) (A.deeper (envX name scope L a cd cl)) (noteFrame (.ref e) (envX name scope L a cd cl))
      (fun _ s₂ => wpAny (model prg w) (A.deeper (envX name scope L a cd cl)) (setFlight (.ref e) none) (fun _ s₃ =>
        wpAny (model prg w) (A.deeper (envX name scope L a cd cl)) (handleBy (.ref e) (envX name scope L a cd cl) (.ExceptHandler (some (.Name (Str.ofString "TableError") np)) none (b₀ :: suite) pos :: rest)) Q E s₃) E s₂) E s' := by
  refine wpAny_looks_onW (Around.frames_deeper hfr) rfl Fl fun h₄ hheld₄ hsm₄ => ?_
  refine wpAny_landsW hheld₄ fun h₅ hfl₅ hsm₅ => ?_
  have X₅ := X.keeps hfl₅.1
  obtain ⟨ob, hob, hobc⟩ := hfl₅.there
  obtain ⟨nm, q', N, bs, bm, hdct, sn, sub, ab, col, dd, k0, k1, k2, k3, k5, newId, hC, hbase, hbT⟩ := kts_cls (T := "BaseException") (C := 45) X₅ (by with_unfolding_all rfl)
  refine wpAny_handleBy_cons (codeAny_handlers_test (Name_function_global hk hx (loadGlobal_global (env := envX name scope L a cd cl) (v := .ref 45) (T.g.keeps hfl₅.1) (mg_of X T.g (by k_is)) ?_) (by decide))) (by intro q; cases q)
  refine wpAny_excMatches_sub_self hC hob hobc hbase (codeAny_handlers_suite ?_)
  refine lands_againW hfl₅ fun h₆ hfl₆ hsm₆ => ?_
  exact wpAny_passesOwnAt hE (k h₆ hfl₆.1)
end
theorem name_top {h₀ h : Heap} {L D c : Addr} {o o' : Obj} {led : Led} (_ : News h₀ L h ((D, o) :: (c, o') :: led)) : ∃ NX p9, p9 = o' ∧ NX = ((D, o) :: (c, o') :: led) := ⟨_, o', rfl, rfl⟩
theorem map_ps {m : Str → Option Value} (ps : List (Str × Value)) (h : ∀ p ∈ ps, m p.1 = some p.2) : kstB m ps = m := funext fun _ => kstB_eq h fun _ => rfl
theorem map_ps3 {m : Str → Option Value} {x y z : Str} {a b c : Value} (h1 : m x = some a) (h2 : m y = some b) (h3 : m z = some c) : kstB m [(x, a), (y, b), (z, c)] = m := map_ps _ (by
  intro p hp
  simp only [List.mem_cons, List.not_mem_nil, or_false] at hp
  rcases hp with rfl | rfl | rfl
  · exact h1
  · exact h2
  · exact h3)
/-- the call of masked_rules, as it stands: the walk stops here -/
noncomputable def MaskAt (prog : Program) (w : World) (A : Around) (vs : List Value) (Q E : Value → Shared → Prop) (s : Shared) : Prop := wpAny (model prog w) A (call (.ref 189) vs) Q E s
theorem mask_stop {prog : Program} {w : World} {A : Around} {vs : List Value} {Q E : Value → Shared → Prop} {s : Shared} (h : MaskAt prog w A vs Q E s) : wpAny (model prog w) A (call (.ref 189) vs) Q E s := h
theorem SaysB.use {w : World} {f : Addr} {dd uu : Nat} {news : Led} {vs : List Value} {Post : Led → Value → Prop} {Bad : Prop} (H : SaysB w f dd uu news vs Post Bad)
    {mean : ExcName → Option Value} {mg mb : Str → Option Value} {dp un : Nat} {gd : Option (List Code)} {cn : Str} {cs : Scope} {a : Addr} {ccd : Value} {cl : List (Str × Addr)} {outer : List Env} {A₀ : Around} {base h₀ : Heap} {L : Addr} {m : Str → Option Value} {s : Shared}
    {Q E : Value → Shared → Prop} (B : Below A₀ base outer h₀) (F : Fr h₀ L s.heap m) (X : (Mine.hd.heap_1 w.params).In h₀) (N : News h₀ L s.heap news) (T : Top vw lse mean mg mb h₀) (hk : cs.kind = .function) (hd : dp + dd < recursionLimit) (hu : un + uu < cLine)
    (ret : ∀ r tl h' tk', Fr h₀ L h' m → News h₀ L h' (news ++ tl) → (∀ q ∈ news, ∀ p ∈ tl, q.1 < p.1) → Post (news ++ tl) r → Q r { s with heap := h', toks := tk' })
    (exc : ∀ e h' tk', Bad → Flies base (envX cn cs L a ccd cl :: outer) L m e h' → E (.ref e) { s with heap := h', toks := tk' }) :
    wpAny (model prg w) (ktrTop dp un gd cn cs L a ccd cl outer) (call (.ref f) vs) Q E s := H _ _ _ _ _ _ _ _ _ _ _ _ _ _ _ _ _ _ _ _ B F X N T hk hd hu ret exc
end Mine

end
section
open PySem
set_option maxRecDepth 100000
namespace Mine
theorem range_nums {bits : Nat} {lo hi : Int} (h0 : 0 ≤ lo) (h1 : hi < 2 ^ bits) (hlh : lo ≤ hi) : (Wish.range lo hi).nums bits = blk lo (hi + 1 - lo).toNat := by
  have ew : ((2 ^ bits : Nat) : Int) = 2 ^ bits := by simp
  refine filter_blk (2 ^ bits) h0 (by rw [ew]; omega) fun x hx hw => ?_
  simp only [Wish.has, Bool.and_eq_true, decide_eq_true_eq]
  omega
theorem masks_nums {bits : Nat} {y : Wish} (hb : bits ≤ 8) (ok : y.ok bits) : ((y.masks bits).flatMap fun p => (Wish.mask p.1 p.2).nums bits) = y.nums bits := by
  cases y with
  | mask v m => simp [Wish.masks]
  | range lo hi =>
    obtain ⟨h0, h1, h2⟩ := ok
    rw [range_nums h0 h2 h1]
    exact rm_nums hb h0 h2 h1
theorem upto_nodup (k : Nat) : (upto k).Nodup := by
  unfold upto
  refine List.Pairwise.map _ (fun a b h => ?_) List.nodup_range
  exact fun q => h (by exact_mod_cast q)
theorem nums_nodup (bits : Nat) (y : Wish) : (y.nums bits).Nodup := List.Pairwise.filter _ (upto_nodup _)
noncomputable def L4 : Option Wish → List Int
  | some x => x.nums 3
  | none => upto 8
noncomputable def L7 : Option Wish → List Int
  | some x => x.nums 8
  | none => upto 256
noncomputable def opts (bits : Nat) : Option Wish → List (Option Wish)
  | some x => (x.masks bits).map fun p => some (.mask p.1 p.2)
  | none => [none]
theorem maskeds_eq (d : WD) : d.maskeds = (opts 3 d.1).flatMap fun x => (opts 8 d.2).map fun y => (x, y) := by
  rcases d with ⟨_ | a, _ | b⟩
  · rfl
  · show mstep [WD0] (7, b) = _
    unfold mstep opts
    simp only [List.flatMap_cons, List.flatMap_nil, List.append_nil, List.map_map]
    rfl
  · show mstep [WD0] (4, a) = _
    unfold mstep opts
    simp only [List.flatMap_cons, List.flatMap_nil, List.append_nil, List.flatMap_map, List.map_cons, List.map_nil]
    rw [show bitsOf 4 = 3 from rfl, ← List.map_eq_flatMap]
    rfl
  · show mstep (mstep [WD0] (4, a)) (7, b) = _
    unfold mstep opts
    simp only [List.flatMap_cons, List.flatMap_nil, List.append_nil, List.flatMap_map, List.map_map]
    rfl
theorem opts4 {d : WD} (ok : WD.ok d) : (opts 3 d.1).flatMap L4 = L4 d.1 := by
  rcases d with ⟨_ | a, b⟩
  · simp [opts]
  · have := masks_nums (bits := 3) (by decide) (ok.1 a rfl)
    rw [← List.flatMap_map] at this
    simpa [opts, List.flatMap_map, L4] using masks_nums (bits := 3) (by decide) (ok.1 a rfl)
theorem opts7 {d : WD} (ok : WD.ok d) : (opts 8 d.2).flatMap L7 = L7 d.2 := by
  rcases d with ⟨a, _ | b⟩
  · simp [opts]
  · simpa [opts, List.flatMap_map, L7] using masks_nums (bits := 8) (by decide) (ok.g.2 b rfl)
theorem lot4_L (d : WD) : d.lot4 = L4 d.1 := by rcases d with ⟨_ | a, b⟩ <;> rfl
theorem lot7_L (d : WD) : d.lot7 = L7 d.2 := by rcases d with ⟨a, _ | b⟩ <;> rfl
theorem L4_nodup : ∀ x, (L4 x).Nodup
  | some x => nums_nodup 3 x
  | none => upto_nodup 8
theorem L7_nodup : ∀ x, (L7 x).Nodup
  | some x => nums_nodup 8 x
  | none => upto_nodup 256
theorem mem_maskeds {d e : WD} (h : e ∈ d.maskeds) : e.1 ∈ opts 3 d.1 ∧ e.2 ∈ opts 8 d.2 := by
  rw [maskeds_eq] at h
  obtain ⟨x, hx, hy⟩ := List.mem_flatMap.mp h
  obtain ⟨y, hy', rfl⟩ := List.mem_map.mp hy
  exact ⟨hx, hy'⟩
theorem len_flatMap {α β : Type} {f : α → List β} : ∀ (l : List α), (∀ a ∈ l, 1 ≤ (f a).length) → l.length ≤ (l.flatMap f).length
  | [], _ => Nat.le_refl _
  | a :: r, h => by
    have := len_flatMap r fun x hx => h x (.tail _ hx)
    have := h a (.head _)
    rw [List.flatMap_cons, List.length_append, List.length_cons]
    omega
theorem mask_some {bits : Nat} {v m : Int} (ok : (Wish.mask v m).ok bits) : 1 ≤ ((Wish.mask v m).nums bits).length := by
  obtain ⟨h0, h1, h2⟩ := ok
  have r := PyProof.Rows.bitAnd_range v h0
  rw [h2] at r
  refine List.length_pos_iff.mpr (List.ne_nil_of_mem (a := v) (List.mem_filter.mpr ⟨?_, ?_⟩))
  · unfold upto
    refine List.mem_map.mpr ⟨v.toNat, List.mem_range.mpr ?_, by omega⟩
    have ew : ((2 ^ bits : Nat) : Int) = 2 ^ bits := by simp
    omega
  · show (Builtin.bitAnd v m == v) = true
    rw [h2]; simp
theorem masks_few {bits : Nat} {y : Wish} (hb : bits ≤ 8) (ok : y.ok bits) : (y.masks bits).length ≤ (y.nums bits).length := by
  rw [← masks_nums hb ok]
  exact len_flatMap _ fun p hp => mask_some (masks_ok hb ok p hp)
theorem nums3_len (y : Wish) : (y.nums 3).length ≤ 8 := Nat.le_trans (List.length_filter_le _ _) (by decide)
theorem nums8_len {d : WD} {y : Wish} (ok : WD.ok d) (h : d.2 = some y) : (y.nums 8).length ≤ 5 := by
  obtain ⟨k, n, rfl, h0, h1, h2, h3⟩ := ok.2 y h
  rw [range_nums (by omega) (by have : (2 : Int) ^ 8 = 256 := rfl; omega) (by omega)]
  unfold blk
  rw [List.length_map, List.length_range]
  omega
theorem opts3_len {d : WD} (ok : WD.ok d) : (opts 3 d.1).length ≤ 8 := by
  rcases d with ⟨_ | a, b⟩
  · exact Nat.le_of_ble_eq_true rfl
  · show ((a.masks 3).map _).length ≤ 8
    rw [List.length_map]
    exact Nat.le_trans (masks_few (by decide) (ok.1 a rfl)) (nums3_len a)
theorem opts8_len {d : WD} (ok : WD.ok d) : (opts 8 d.2).length ≤ 5 := by
  rcases d with ⟨a, _ | b⟩
  · exact Nat.le_of_ble_eq_true rfl
  · show ((b.masks 8).map _).length ≤ 5
    rw [List.length_map]
    exact Nat.le_trans (masks_few (by decide) (ok.g.2 b rfl)) (nums8_len ok rfl)
theorem len_prod {α β γ : Type} (f : α → β → γ) (l : List α) (r : List β) : (l.flatMap fun x => r.map (f x)).length = l.length * r.length := by
  induction l with
  | nil => simp
  | cons a l ih => rw [List.flatMap_cons, List.length_append, ih, List.length_map, List.length_cons, Nat.succ_mul, Nat.add_comm]
theorem maskeds_len {d : WD} (ok : WD.ok d) : d.maskeds.length ≤ 40 := by
  rw [maskeds_eq, len_prod]
  exact Nat.mul_le_mul (opts3_len ok) (opts8_len ok)
theorem MOk64 {d : WD} (ok : WD.ok d) : MOk d 64 := .inr (by have := maskeds_len ok; omega)
theorem maskeds_pos {d : WD} (ok : WD.ok d) : 1 ≤ d.maskeds.length := by
  have := fold_grows d.entries [WD0] (entry_some ok)
  exact this
theorem not_last {d : WD} (ok : WD.ok d) (h : d.entries ≠ []) : ¬ MOk d ((d.maskeds.length : Int) - 1) := by
  rintro (q | q)
  · exact h q
  · omega
/-- all wishes of the rules of masks are masks -/
theorem all_masks {d e : WD} (h : e ∈ d.maskeds) : ∀ p ∈ e.entries, ∃ v m, p.2 = .mask v m := by
  obtain ⟨h1, h2⟩ := mem_maskeds h
  have q1 : ∀ x, e.1 = some x → ∃ v m, x = .mask v m := by
    intro x hx
    rw [hx] at h1
    rcases d with ⟨_ | a, b⟩
    · simp [opts] at h1
    · obtain ⟨p, _, hp⟩ := List.mem_map.mp h1
      cases hp
      exact ⟨_, _, rfl⟩
  have q2 : ∀ x, e.2 = some x → ∃ v m, x = .mask v m := by
    intro x hx
    rw [hx] at h2
    rcases d with ⟨a, _ | b⟩
    · simp [opts] at h2
    · obtain ⟨p, _, hp⟩ := List.mem_map.mp h2
      cases hp
      exact ⟨_, _, rfl⟩
  intro p hp
  obtain ⟨i, hi⟩ := List.getElem?_of_mem hp
  rcases WD.entry_at hi with ⟨_, hy⟩ | ⟨_, hy⟩
  · exact q1 _ hy
  · exact q2 _ hy
theorem sum_prod {α β : Type} (f : α → Int) (g : β → Int) (l : List α) (r : List β) : ((l.flatMap fun x => r.map fun y => f x * g y)).sum = (l.map f).sum * (r.map g).sum := by
  have e : ∀ (x : α) (r : List β), (r.map fun y => f x * g y).sum = f x * (r.map g).sum := fun x r => by
    induction r with
    | nil => simp
    | cons b r ih => simp [ih, Int.mul_add]
  induction l with
  | nil => simp
  | cons a l ih => simp [List.flatMap_cons, List.sum_append, ih, e, Int.add_mul]
theorem sum_len {α β : Type} (f : α → List β) (l : List α) : (l.map fun x => ((f x).length : Int)).sum = ((l.flatMap f).length : Int) := by
  induction l with
  | nil => simp
  | cons a l ih => simp [List.flatMap_cons, ih]
theorem sums_law {d : WD} (ok : WD.ok d) : (d.maskeds.map fun e => (e.lot4.length : Int) * (e.lot7.length : Int)).sum = (d.lot4.length : Int) * (d.lot7.length : Int) := by
  have e1 : (d.maskeds.map fun e => (e.lot4.length : Int) * (e.lot7.length : Int)) = (opts 3 d.1).flatMap fun x => (opts 8 d.2).map fun y => ((L4 x).length : Int) * ((L7 y).length : Int) := by
    rw [maskeds_eq, List.map_flatMap]
    congr 1
    funext x
    rw [List.map_map]
    refine List.map_congr_left fun y _ => ?_
    show ((WD.lot4 (x, y)).length : Int) * ((WD.lot7 (x, y)).length : Int) = _
    rw [lot4_L, lot7_L]
  rw [e1, sum_prod, sum_len, sum_len, opts4 ok, opts7 ok, lot4_L, lot7_L]
theorem lot_within {d e : WD} (ok : WD.ok d) (h : e ∈ d.maskeds) : lotsWithin e.lots d.lots = true := by
  obtain ⟨h1, h2⟩ := mem_maskeds h
  rw [lotsWithin_eq]
  show ((without e.lot4 d.lot4 == []) && (without e.lot7 d.lot7 == [])) = true
  rw [without_nil, without_nil, Bool.and_eq_true, all_mem, all_mem]
  rw [lot4_L, lot7_L, lot4_L, lot7_L]
  refine ⟨fun n hn => ?_, fun n hn => ?_⟩
  · rw [← opts4 ok]; exact List.mem_flatMap.mpr ⟨_, h1, hn⟩
  · rw [← opts7 ok]; exact List.mem_flatMap.mpr ⟨_, h2, hn⟩
end Mine
namespace Mine
noncomputable def cut (l : List Int) : List Int := if l.length < 9 then l else l.take 1
theorem cut_sub (l : List Int) : (cut l).Sublist l := by
  unfold cut
  split
  · exact List.Sublist.refl _
  · exact List.take_sublist _ _
theorem cut_len (l : List Int) : (cut l).length ≤ 8 := by
  unfold cut
  split
  · omega
  · rw [List.length_take]; omega
noncomputable def pairsOf (xs ys : List Int) : List (Int × Int) := xs.flatMap fun a => ys.map fun b => (a, b)
noncomputable def metOf (e : WD) : List (Int × Int) := pairsOf e.lot4 (cut e.lot7)
noncomputable def mets (l : List WD) : List (Int × Int) := l.flatMap metOf
theorem mem_pairsOf {xs ys : List Int} {p : Int × Int} (h : p ∈ pairsOf xs ys) : p.1 ∈ xs ∧ p.2 ∈ ys := by
  obtain ⟨a, ha, hp⟩ := List.mem_flatMap.mp h
  obtain ⟨b, hb, rfl⟩ := List.mem_map.mp hp
  exact ⟨ha, hb⟩
theorem pairsOf_nodup {xs ys : List Int} (hx : xs.Nodup) (hy : ys.Nodup) : (pairsOf xs ys).Nodup := by
  refine List.pairwise_flatMap.mpr ⟨fun a _ => ?_, ?_⟩
  · refine List.Pairwise.map _ (fun b b' h => ?_) hy
    exact fun q => h (Prod.mk.inj q).2
  · refine List.Pairwise.imp (fun {a a'} h => ?_) hx
    intro p hp q hq e
    obtain ⟨b, _, rfl⟩ := List.mem_map.mp hp
    obtain ⟨b', _, rfl⟩ := List.mem_map.mp hq
    exact h (Prod.mk.inj e).1
theorem mets_nodup {d : WD} (ok : WD.ok d) : (mets d.maskeds).Nodup := by
  have h4 : ((opts 3 d.1).flatMap L4).Nodup := by rw [opts4 ok]; exact L4_nodup _
  have h7 : ((opts 8 d.2).flatMap L7).Nodup := by rw [opts7 ok]; exact L7_nodup _
  obtain ⟨a4, b4⟩ := List.pairwise_flatMap.mp h4
  obtain ⟨a7, b7⟩ := List.pairwise_flatMap.mp h7
  have e : mets d.maskeds = (opts 3 d.1).flatMap fun x => (opts 8 d.2).flatMap fun y => pairsOf (L4 x) (cut (L7 y)) := by
    unfold mets
    rw [maskeds_eq, List.flatMap_assoc]
    congr 1
    funext x
    rw [List.flatMap_map]
    have q : ∀ y, metOf (x, y) = pairsOf (L4 x) (cut (L7 y)) := fun y => by
      show pairsOf (WD.lot4 (x, y)) (cut (WD.lot7 (x, y))) = _
      rw [lot4_L, lot7_L]
    simp only [q]
  rw [e]
  refine List.pairwise_flatMap.mpr ⟨fun x hx => List.pairwise_flatMap.mpr ⟨fun y hy => pairsOf_nodup (a4 x hx) ((cut_sub _).nodup (a7 y hy)), ?_⟩, ?_⟩
  · refine List.Pairwise.imp (fun {y y'} h => ?_) b7
    intro p hp q hq e
    subst e
    exact h _ ((cut_sub _).subset (mem_pairsOf hp).2) _ ((cut_sub _).subset (mem_pairsOf hq).2) rfl
  · refine List.Pairwise.imp (fun {x x'} h => ?_) b4
    intro p hp q hq e
    subst e
    obtain ⟨y, _, hp⟩ := List.mem_flatMap.mp hp
    obtain ⟨y', _, hq⟩ := List.mem_flatMap.mp hq
    exact h _ (mem_pairsOf hp).1 _ (mem_pairsOf hq).1 rfl
theorem lot4_len {d e : WD} (h : e ∈ d.maskeds) : e.lot4.length ≤ 8 := by
  rcases e with ⟨_ | a, b⟩
  · exact Nat.le_of_ble_eq_true rfl
  · exact nums3_len a
theorem pairsOf_len (xs ys : List Int) : (pairsOf xs ys).length = xs.length * ys.length := by
  unfold pairsOf
  exact len_prod (fun a b => (a, b)) xs ys
theorem mets_take_len {d : WD} (i : Nat) : (mets (d.maskeds.take i)).length ≤ i * 64 := by
  unfold mets
  have : ∀ (l : List WD), (∀ e ∈ l, e.lot4.length ≤ 8) → (l.flatMap metOf).length ≤ l.length * 64 := by
    intro l
    induction l with
    | nil => intro _; exact Nat.le_refl _
    | cons a r ih =>
      intro h
      have i1 := ih fun e he => h e (.tail _ he)
      have i2 := h a (.head _)
      have i3 := cut_len a.lot7
      have i4 : (metOf a).length ≤ 64 := by
        show (pairsOf _ _).length ≤ 64
        rw [pairsOf_len]
        exact Nat.mul_le_mul i2 i3
      rw [List.flatMap_cons, List.length_append, List.length_cons]
      omega
  refine Nat.le_trans (this _ fun e he => lot4_len (List.mem_of_mem_take he)) ?_
  exact Nat.mul_le_mul_right 64 (List.length_take_le _ _)
end Mine

end
section
open PySem PySem.W PyProof.Rows PySem.Spec PySem.Calls
open LCg (NsObj ns_obj lst lst_snoc Off3 range_walks range_st)
set_option maxRecDepth 100000
namespace Mine
section
variable {prog : Program} {w : World} {A : Around} {s : Shared} {h₀ : Heap} {L : Addr} {m : Str → Option Value} {env cenv : Env}
/-- what a turn of a comprehension leaves behind -/

theorem emit_lastM {elt : Expr} {gens : List Comprehension} {scope : Scope} {pos : Pos} {d : Nat} {I C D : Addr} {oI : Obj} {J : (Str → Option Value) → List Value → Led → Prop} {s₁ : Shared} {E : Value → Shared → Prop} (hg : gens[d + 1]? = none) (hne : Trip I C D)
    (h : wpAny (model prog w) A (eval elt cenv) (CEndYM h₀ L m I oI C D J s₁) E s) :
    wpAny (model prog w) A (emitAt elt gens scope pos d (.ref D) cenv) (fun _ s₂ => CEndM h₀ L m I oI C D J s₁ s₂) E s := by
  unfold emitAt
  rw [hg]
  refine wpAny_bind (wpAny_mono h (fun y s₂ h₂ => ?_) fun _ _ e => e)
  obtain ⟨h', tk, ys', nx', oC', m', rfl, F', hC', N', off, hsz, hJ⟩ := h₂
  have zI := N' (I, oI) List.mem_cons_self
  have zC := N' (C, oC') (List.mem_cons_of_mem _ List.mem_cons_self)
  have zD := N' (D, lst ys') (List.mem_cons_of_mem _ (List.mem_cons_of_mem _ List.mem_cons_self))
  refine wpAny_bind (append_at (hsz := by show ys'.toArray.size ≤ sizeLine; rw [List.size_toArray]; exact hsz) zD.1 fun h₅ hs₅ hD₅ => wpAny_pure ?_)
  refine ⟨h₅, tk, ys' ++ [y], nx', oC', m', rfl, F'.change hs₅ zD.2.1 zD.2.2, hC', fun p hp => ?_, off, hJ⟩
  rcases List.mem_cons.mp hp with rfl | hp
  · exact ⟨hs₅.extBut _ _ hne.2.1 zI.1, zI.2⟩
  rcases List.mem_cons.mp hp with rfl | hp
  · exact ⟨hs₅.extBut _ _ hne.2.2 zC.1, zC.2⟩
  rcases List.mem_cons.mp hp with rfl | hp
  · exact ⟨hD₅.trans (congrArg some (lst_snoc ys' y)), zD.2⟩
  · have z := N' p (.tail _ (.tail _ (.tail _ hp)))
    exact ⟨hs₅.extBut _ _ (off.mem p hp).2.2 z.1, z.2⟩

/-- one generator's loop -/
theorem comp_levelM {elt : Expr} {gens : List Comprehension} {scope : Scope} {pos : Pos} {d : Nat} {target iter : Expr} {ifs : List Expr} {R : Result → Shared → Prop} {I C D : Addr} {fp : List Addr} {n : Nat} {P : Nat → Value → Prop} {St : Nat → Heap → Prop} {S : Led → Prop} {cn : String} {ys₀ : List Value} {nx₀ : Led} {oC₀ : Obj} {m₀ : Str → Option Value}
    (hg : gens[d]? = some ⟨target, iter, ifs, 0⟩) (ha : ∀ g', gens[d + 1]? = some g' → g'.is_async = 0)
    (W : Walks prog w A I fp [I] n P St) (hIo : ∀ i h, St i h → ∃ o, h.get? I = some o ∧ o.cls = .type cn)
    (hcn : ["enumerate", "zip", "dict_itemiterator", "dict_reverseitemiterator", "odict_iterator", "itertools.zip_longest", "itertools.pairwise"].contains cn = false)
    (hSt : ∀ i h h' o nw, St i h → h.get? I = some o → h'.get? I = some o → (∀ b o, h₀.get? b = some o → h'.get? b = some o) → News h₀ L h' nw → S nw → St i h')
    (hst : St 0 s.heap) (F : Fr h₀ L s.heap m) (hC : NsObj oC₀ m₀) (N : News h₀ L s.heap ((C, oC₀) :: (D, lst ys₀) :: nx₀)) (hIL : L ≠ I) (hI₀ : h₀.get? I = none) (off : Off3 I C D nx₀) (hne : Trip I C D)
    (J : Nat → (Str → Option Value) → List Value → Led → Prop) (j0 : J 0 m₀ ys₀ nx₀) (hS : ∀ i mC ys nx, J i mC ys nx → S nx)
    (turn : ∀ i v ys nx h tk oI oC mC, i < n → P i v → J i mC ys nx → Off3 I C D nx → Fr h₀ L h m → NsObj oC mC → News h₀ L h ((I, oI) :: (C, oC) :: (D, lst ys) :: nx) →
      ∀ E' : Value → Shared → Prop, wpAny (model prog w) A (assign target cenv v) (fun _ s₂ => wpAny (model prog w) A (forIn ifs true fun c r => if r = true then do let ok ← isTrue c cenv (eval c cenv); pure (ForInStep.yield ok) else pure (ForInStep.yield r)) (fun ok s₃ =>
          if ok = true then wpAny (model prog w) A (emitAt elt gens scope pos d (.ref D) cenv) (fun _ s₄ => CEndM h₀ L m I oI C D (J (i + 1)) { s with heap := h, toks := tk } s₄) E' s₃
          else CEndM h₀ L m I oI C D (J (i + 1)) { s with heap := h, toks := tk } s₃) E' s₂) E' { s with heap := h, toks := tk })
    (done : ∀ ys nx h tk oC mC, J n mC ys nx → Off3 I C D nx → Fr h₀ L h m → NsObj oC mC → News h₀ L h ((C, oC) :: (D, lst ys) :: nx) → R (.ok .next) { s with heap := h, toks := tk }) :
    codeAny (model prog w) A (.compLoop (.ListComp elt gens scope pos) d (.ref I) (.ref D) cenv) R s := by
  have kF : ∀ {h h' : Heap}, Fr h₀ L h m → (∀ b o, b ∉ [I] → h.get? b = some o → h'.get? b = some o) → Fr h₀ L h' m := fun F hk =>
    ⟨F.ns.at' fun o e => hk L o (by simpa using hIL) e, fun b o e => hk b o (fun hm => by rw [List.mem_singleton.mp hm, hI₀] at e; cases e) (F.keep b o e), F.above⟩
  have kN : ∀ {h h' : Heap} {oC : Obj} {ys : List Value} {nx : Led}, News h₀ L h ((C, oC) :: (D, lst ys) :: nx) → (∀ b o, b ∉ [I] → h.get? b = some o → h'.get? b = some o) → Off3 I C D nx → News h₀ L h' ((C, oC) :: (D, lst ys) :: nx) := fun N hk off p hp => by
    refine ⟨hk _ _ ?_ (N p hp).1, (N p hp).2⟩
    rw [List.mem_singleton]
    rcases List.mem_cons.mp hp with rfl | hp
    · exact Ne.symm hne.1
    rcases List.mem_cons.mp hp with rfl | hp
    · exact Ne.symm hne.2.1
    · exact (off.mem p hp).1
  refine codeAny_loop rfl (fun k s' => ∃ h' tk i ys nx' oC m', s' = { s with heap := h', toks := tk } ∧ i ≤ n ∧ k = n + 1 - i ∧ St i h' ∧ Fr h₀ L h' m ∧ NsObj oC m' ∧ News h₀ L h' ((C, oC) :: (D, lst ys) :: nx') ∧ Off3 I C D nx' ∧ J i m' ys nx') ?_ (n + 1)
    ⟨s.heap, s.toks, 0, ys₀, nx₀, oC₀, m₀, rfl, Nat.zero_le _, rfl, hst, F, hC, N, off, j0⟩
  rintro k s' ⟨h', tk, i, ys, nx', oC, m', rfl, hi, rfl, hst', F', hC', N', off', hJ⟩
  show wpAny _ A ((compTurn (.ListComp elt gens scope pos) d (.ref I) (.ref D) cenv).onRaise (fun x => do noteFrame x cenv; theTreesLotGoes x)) _ _ _
  refine wpAny_noted ?_
  rw [compTurn_at hg ha]
  refine wpAny_bind (wpAny_standAt (wpAny_bind ?_))
  by_cases hlt : i < n
  · refine W.item i _ _ _ hlt hst' fun v h₁ tk₁ hP hst₁ hk₁ => ?_
    have F₁ := kF F' hk₁
    have N₁ := kN N' hk₁ off'
    obtain ⟨oI, hoI, hcI⟩ := hIo _ _ hst₁
    have N₁' : News h₀ L h₁ ((I, oI) :: (C, oC) :: (D, lst ys) :: nx') := fun p hp => by
      rcases List.mem_cons.mp hp with rfl | hp
      · exact ⟨hoI, Ne.symm hIL, hI₀⟩
      · exact N₁ p hp
    have fin : ∀ s₄, CEndM h₀ L m I oI C D (J (i + 1)) { s with heap := h₁, toks := tk₁ } s₄ → ∃ k, k < n + 1 - i ∧ ∃ h' tk i' ys nx' oC m', s₄ = { s with heap := h', toks := tk } ∧ i' ≤ n ∧ k = n + 1 - i' ∧ St i' h' ∧ Fr h₀ L h' m ∧ NsObj oC m' ∧ News h₀ L h' ((C, oC) :: (D, lst ys) :: nx') ∧ Off3 I C D nx' ∧ J i' m' ys nx' := by
      rintro s₄ ⟨g, tk₄, ys₄, nx₄, oC₄, m₄, rfl, F₄, hC₄, N₄, off₄, J₄⟩
      have N₄' : News h₀ L g nx₄ := fun p hp => N₄ p (.tail _ (.tail _ (.tail _ hp)))
      exact ⟨n + 1 - (i + 1), by omega, g, tk₄, i + 1, ys₄, nx₄, oC₄, m₄, rfl, hlt, rfl, hSt _ _ _ _ _ hst₁ hoI (N₄ _ (.head _)).1 F₄.keep N₄' (hS _ _ _ _ J₄), F₄, hC₄, fun p hp => N₄ p (.tail _ hp), off₄, J₄⟩
    refine wpAny_bind (letGo_data (n := cn) hoI hcI hcn (wpAny_bind (wpAny_mono (turn i v ys nx' h₁ tk₁ oI oC m' hlt hP hJ off' F₁ hC' N₁' _) (fun _ s₂ h₂ => wpAny_bind (wpAny_mono h₂ (fun ok s₃ h₃ => ?_) fun _ _ e => e)) fun _ _ e => e)))
    cases ok with
    | false => exact wpAny_pure ⟨rfl, fin _ h₃⟩
    | true => exact wpAny_bind (wpAny_mono h₃ (fun _ s₄ h₄ => wpAny_pure ⟨rfl, fin _ h₄⟩) fun _ _ e => e)
  · obtain rfl : i = n := Nat.le_antisymm hi (Nat.not_lt.mp hlt)
    refine W.done _ _ _ hst' fun h₂ tk₂ hk₂ => wpAny_pure ?_
    exact done ys nx' h₂ tk₂ oC m' hJ off' (kF F' hk₂) hC' (kN N' hk₂ off')

/-- the turn of a comprehension's first loop, as a goal -/
noncomputable def CTurnM (prog : Program) (w : World) (A : Around) (h₀ : Heap) (L : Addr) (m : Str → Option Value) (cenv : Env) (elt target : Expr) (ifs : List Expr) (gens : List Comprehension) (scope : Scope) (pos : Pos) (d : Nat) (I : Addr) (oI : Obj) (C D : Addr) (J : (Str → Option Value) → List Value → Led → Prop) (v : Value) (s₁ : Shared) : Prop :=
  ∀ E' : Value → Shared → Prop, wpAny (model prog w) A (assign target cenv v) (fun _ s₂ => wpAny (model prog w) A (forIn ifs true fun c r => if r = true then do let ok ← isTrue c cenv (eval c cenv); pure (ForInStep.yield ok) else pure (ForInStep.yield r)) (fun ok s₃ =>
          if ok = true then wpAny (model prog w) A (emitAt elt gens scope pos d (.ref D) cenv) (fun _ s₄ => CEndM h₀ L m I oI C D J s₁ s₄) E' s₃
          else CEndM h₀ L m I oI C D J s₁ s₃) E' s₂) E' s₁
end
section
variable {prog : Program} {w : World} {A : Around} {s s₁ : Shared} {h₀ : Heap} {L : Addr} {m : Str → Option Value} {env cenv : Env} {E : Value → Shared → Prop}
/-- the source of an inner generator, a list of the ledger -/
inductive NSrcM (prog : Program) (w : World) (A : Around) (h₀ : Heap) (L : Addr) (m : Str → Option Value) (cenv : Env) (elt target : Expr) (ifs : List Expr) (gens : List Comprehension) (scope : Scope) (pos : Pos) (d : Nat) (I : Addr) (oI : Obj) (C D : Addr) (J : (Str → Option Value) → List Value → Led → Prop) (s₁ : Shared) (xv : Value) (s₂ : Shared) : Prop
  | of9 : ∀ l vs k ys nx oC mC, ∀ J' : Nat → (Str → Option Value) → List Value → Led → Prop, (xv = .ref l) → (A.handled = none) → (∃ hh tk, s₂ = { s₁ with heap := hh, toks := tk }) → ((l, listOf (List.toArray vs) k) ∈ nx) → (Fr h₀ L s₂.heap m) → (NsObj oC mC) → (News h₀ L s₂.heap ((I, oI) :: (C, oC) :: (D, lst ys) :: nx)) → (Trip I C D) → (Off3 I C D nx) → (J' 0 mC ys nx) → (∀ j mC ys nx, J' j mC ys nx → (l, listOf (List.toArray vs) k) ∈ nx) → (∀ j v ys nx h tk I' oI' oC mC, vs[j]? = some v → J' j mC ys nx → I < I' → Off3 I' C D ((I, oI) :: nx) → Off3 I C D nx → Trip I' C D → Fr h₀ L h m → NsObj oC mC → News h₀ L h ((I', oI') :: (C, oC) :: (D, lst ys) :: (I, oI) :: nx) → CTurnM prog w A h₀ L m cenv elt target ifs gens scope pos (d + 1) I' oI' C D (fun mC ys nx' => ∃ nx, nx' = (I, oI) :: nx ∧ Off3 I C D nx ∧ J' (j + 1) mC ys nx) v { s₁ with heap := h, toks := tk }) → (∀ mC ys nx, J' vs.length mC ys nx → J mC ys nx) → NSrcM prog w A h₀ L m cenv elt target ifs gens scope pos d I oI C D J s₁ xv s₂

theorem emit_nextM {elt : Expr} {gens : List Comprehension} {scope : Scope} {pos : Pos} {d : Nat} {I C D : Addr} {oI : Obj} {J : (Str → Option Value) → List Value → Led → Prop} {target iter : Expr} {ifs : List Expr} (hg : gens[d + 1]? = some ⟨target, iter, ifs, 0⟩) (ha : ∀ g', gens[d + 1 + 1]? = some g' → g'.is_async = 0)
    (h : wpAny (model prog w) A (eval iter cenv) (NSrcM prog w A h₀ L m cenv elt target ifs gens scope pos d I oI C D J s₁) E s)
    (hs : ∀ x, foldedSetIterable iter cenv x = pure x) :
    wpAny (model prog w) A (emitAt elt gens scope pos d (.ref D) cenv) (fun _ s₂ => CEndM h₀ L m I oI C D J s₁ s₂) E s := by
  unfold emitAt
  rw [hg]
  refine wpAny_bind (wpAny_mono h (fun xv s₂ h₂ => wpAny_bind (wpAny_standAt (wpAny_bind (wpAny_of_eq (hs xv) ?_)))) fun _ _ e => e)
  obtain ⟨l, vs, k, ys, nx, oC, mC, J', rfl, hh, ⟨hp2, tk2, rfl⟩, hm, F, hC, N, tr, off, j0, hS, turn, done⟩ := h₂
  have zI := N (I, oI) (.head _)
  have zC := N (C, oC) (.tail _ (.head _))
  have zD := N (D, lst ys) (.tail _ (.tail _ (.head _)))
  have hol := (N _ (.tail _ (.tail _ (.tail _ hm)))).1
  have hls : hp2.IsList l vs.toArray := ⟨_, hol, rfl, k, rfl⟩
  have hlt : l < hp2.objs.size := Heap.lt_size hol
  refine wpAny_bind (wpAny_holding (wpAny_pyIter_list hls ?_))
  have W := Walks.list (prog := prog) (w := w) hh hp2.objs.size l (Nat.ne_of_lt hlt) vs.toArray
  have hlen : vs.toArray.size = vs.length := by simp
  rw [hlen] at W
  have up : ∀ b o, hp2.get? b = some o → (hp2.push { cls := .type "list_iterator", data := .fields #[.ref l, .int 0 0] }).get? b = some o := fun b o e => Heap.get?_push_of_some _ e
  have trI : Trip hp2.objs.size C D := ⟨Nat.ne_of_gt (Heap.lt_size zC.1), Nat.ne_of_gt (Heap.lt_size zD.1), tr.2.2⟩
  have offI : Off3 hp2.objs.size C D ((I, oI) :: nx) := Off3.of fun p hp => by
    rcases List.mem_cons.mp hp with rfl | hp
    · exact ⟨Nat.ne_of_lt (Heap.lt_size zI.1), tr.1, tr.2.1⟩
    · exact ⟨Nat.ne_of_lt (Heap.lt_size (N p (.tail _ (.tail _ (.tail _ hp)))).1), (off.mem p hp).2⟩
  have hIlt : I < hp2.objs.size := Heap.lt_size zI.1
  have st0 : (hp2.push { cls := .type "list_iterator", data := .fields #[.ref l, .int 0 0] }).IsListIter hp2.objs.size l 0 ∧ (hp2.push { cls := .type "list_iterator", data := .fields #[.ref l, .int 0 0] }).IsList l vs.toArray := ⟨⟨_, Heap.get?_push_size _ rfl, rfl, rfl⟩, hls.push _⟩
  refine wpAny_bind (wpAny_runOwn ?_)
  have loop : codeAny (model prog w) A (.compLoop (.ListComp elt gens scope pos) (d + 1) (.ref hp2.objs.size) (.ref D) cenv)
      (fun r s' => match r with | .ok f => wpAny (model prog w) A (pure ()) (fun _ s₂ => CEndM h₀ L m I oI C D J s₁ s₂) E s' | .error e => cameBackBy (model prog w) A cenv E e s')
      { ({ s₁ with heap := hp2, toks := tk2 } : Shared) with heap := hp2.push { cls := .type "list_iterator", data := .fields #[.ref l, .int 0 0] } } := by
    refine comp_levelM (S := fun nw => (l, listOf (List.toArray vs) k) ∈ nw) (cn := "list_iterator") (C := C) (oC₀ := oC) (m₀ := mC) (ys₀ := ys) (nx₀ := (I, oI) :: nx) hg ha W (fun i h st => by obtain ⟨o, e, r⟩ := st.1; exact ⟨o, e, r.1⟩) (by decide) list_st' st0 (F.keeps up) hC ?_ (Nat.ne_of_lt F.ns.lt) (next_is_new F) offI trI
      (fun j mC ys nx' => ∃ nx, nx' = (I, oI) :: nx ∧ Off3 I C D nx ∧ J' j mC ys nx) ⟨nx, rfl, off, j0⟩ ?_ ?_ ?_
    · intro p hp
      rcases List.mem_cons.mp hp with rfl | hp
      · exact ⟨up _ _ zC.1, zC.2⟩
      rcases List.mem_cons.mp hp with rfl | hp
      · exact ⟨up _ _ zD.1, zD.2⟩
      rcases List.mem_cons.mp hp with rfl | hp
      · exact ⟨up _ _ zI.1, zI.2⟩
      · have z := N p (.tail _ (.tail _ (.tail _ hp))); exact ⟨up _ _ z.1, z.2⟩
    · rintro j mC ys nx' ⟨nx, rfl, _, hj⟩
      exact .tail _ (hS j mC ys nx hj)
    · rintro j v ys nx' h tk oI' oC mC hi hP ⟨nx, rfl, off', hj⟩ offn F' hC' N'
      exact turn j v ys nx h tk _ oI' oC mC (by simpa using hP) hj hIlt offn off' trI F' hC' N'
    · rintro ys nx' h tk oC mC ⟨nx, rfl, off', hj⟩ offn F' hC' N'
      refine wpAny_pure ⟨h, tk, ys, nx, oC, mC, rfl, F', hC', fun p hp => N' p ?_, off', done _ ys nx hj⟩
      simp only [List.mem_cons] at hp ⊢
      rcases hp with h | h | h | h <;> simp [h]
  exact compStart_at hg loop (W.self 0 _ _ _ st0 loop)
end
end Mine
namespace Mine
section
variable {prog : Program} {w : World} {A : Around} {s s₁ : Shared} {h₀ : Heap} {L : Addr} {m : Str → Option Value} {env cenv : Env} {E : Value → Shared → Prop} {scope : Scope} {cl : List (Str × Addr)} {I C D : Addr} {oI oC : Obj} {ys : List Value} {mC : Str → Option Value}
noncomputable def NKM (I : Addr) (oI : Obj) (C D : Addr) (NX : Led) (G : (Str → Option Value) → Prop) (P : Nat → List Value → Led → Prop) (i : Nat) (mC : Str → Option Value) (ys : List Value) (nx' : Led) : Prop := ∃ nx, nx' = (I, oI) :: nx ∧ Off3 I C D nx ∧ G mC ∧ CK C D NX P i ys nx
theorem CEndYM.mkN {I' : Addr} {oI' oC' : Obj} {NX tl tl' led : Led} {G : (Str → Option Value) → Prop} {P : Nat → List Value → Led → Prop} {i : Nat} {h' : Heap} {tk : Nat} {m' : Str → Option Value} {y : Value} (F : Fr h₀ L h' m) (hC : NsObj oC' m') (N : News h₀ L h' led)
    (sub : ∀ p ∈ (I', oI') :: (C, oC') :: (D, lst ys) :: (I, oI) :: (NX ++ (tl ++ tl')), p ∈ led) (off1 : Off3 I' C D ((I, oI) :: (NX ++ tl))) (off2 : Off3 I C D (NX ++ tl)) (o1 : Above NX tl) (o3 : ∀ p ∈ tl, C < p.1 ∧ D < p.1)
    (o2 : ∀ q ∈ (I', oI') :: (C, oC') :: (D, lst ys) :: (I, oI) :: NX, ∀ p ∈ tl', q.1 < p.1) (hl : ys.length ≤ sizeLine) (g : G m') (hp : P (i + 1) (ys ++ [y]) (NX ++ (tl ++ tl'))) :
    CEndYM h₀ L m I' oI' C D (NKM I oI C D NX G P (i + 1)) s₁ y { s₁ with heap := h', toks := tk } := by
  have a1 : ∀ p ∈ tl', C < p.1 ∧ D < p.1 := fun p hp => ⟨o2 _ (.tail _ (.head _)) p hp, o2 _ (.tail _ (.tail _ (.head _))) p hp⟩
  refine ⟨h', tk, ys, (I, oI) :: (NX ++ (tl ++ tl')), oC', m', rfl, F, hC, fun p hp => N p (sub p hp), ?_, hl, NX ++ (tl ++ tl'), rfl, ?_, g, tl ++ tl', rfl, ord_app o1 (ord_sub o2 fun _ h => .tail _ (.tail _ (.tail _ (.tail _ h)))), ?_, hp⟩
  · have := off3_of (tl := tl') off1 (fun p hp => o2 _ (.head _) p hp) a1
    simpa using this
  · have := off3_of (tl := tl') off2 (fun p hp => o2 _ (.tail _ (.tail _ (.tail _ (.head _)))) p hp) a1
    simpa using this
  · intro p hp
    rcases List.mem_append.mp hp with hp | hp
    · exact o3 p hp
    · exact a1 p hp
theorem NSrcM.mkK1 {elt target : Expr} {ifs : List Expr} {gens : List Comprehension} {pos : Pos} {d : Nat} {l : Addr} {vs : List Value} {k : Nat} {led nx₀ tl : Led} {P : Nat → List Value → Led → Prop} {i1 : Nat} (G : (Str → Option Value) → Prop) (P' : Nat → List Value → Led → Prop) (F : Fr h₀ L s.heap m) (N : News h₀ L s.heap led) (hh : A.handled = none) (he : ∃ hh tk, s = { s₁ with heap := hh, toks := tk })
    (off : Off3 I C D (nx₀ ++ tl)) (o1 : Above nx₀ tl)
    (hsub : ∀ p ∈ (I, oI) :: (C, oC) :: (D, lst ys) :: (nx₀ ++ tl), p ∈ led) (hm : (l, listOf (List.toArray vs) k) ∈ nx₀ ++ tl) (hC : NsObj oC mC) (tr : Trip I C D) (g0 : G mC) (j0 : P' 0 ys (nx₀ ++ tl))
    (turn : ∀ (j : Nat) (v : Value) (ys : List Value) (tl2 : Led) (h : Heap) (tk : Nat) (I' : Addr) (oI' oC : Obj) (mC : Str → Option Value), vs[j]? = some v → G mC → P' j ys ((nx₀ ++ tl) ++ tl2) → Above (nx₀ ++ tl) tl2 → (∀ p ∈ tl2, C < p.1 ∧ D < p.1) → I < I' → Off3 I' C D ((I, oI) :: ((nx₀ ++ tl) ++ tl2)) → Off3 I C D ((nx₀ ++ tl) ++ tl2) → Trip I' C D → Fr h₀ L h m → NsObj oC mC → News h₀ L h ((I', oI') :: (C, oC) :: (D, lst ys) :: (I, oI) :: ((nx₀ ++ tl) ++ tl2)) →
      CTurnM prog w A h₀ L m (compEnvC scope cl C env) elt target ifs gens scope pos (d + 1) I' oI' C D (NKM I oI C D (nx₀ ++ tl) G P' (j + 1)) v { s₁ with heap := h, toks := tk })
    (done : ∀ ys tl2, P' vs.length ys ((nx₀ ++ tl) ++ tl2) → P i1 ys (nx₀ ++ (tl ++ tl2))) : NSrcM prog w A h₀ L m (compEnvC scope cl C env) elt target ifs gens scope pos d I oI C D (fun _ => CJ nx₀ P i1) s₁ (.ref l) s := by
  refine ⟨l, vs, k, ys, nx₀ ++ tl, oC, mC, fun j mC ys nx => G mC ∧ CK C D (nx₀ ++ tl) P' j ys nx, rfl, hh, he, hm, F, hC, fun p hp => N p (hsub p hp), tr, off, ⟨g0, [], by simp, ktn_ord0, (fun _ h => nomatch h), by simpa using j0⟩, ?_, ?_, ?_⟩
  · rintro j mC ys nx ⟨_, tl2, rfl, _⟩; exact List.mem_append_left _ hm
  · rintro j v ys nx h tk I' oI' oC mC hv ⟨hg, tl2, rfl, ha, hcd, hj⟩ hlt off1 off2 tr' F' hC' N'
    exact turn j v ys tl2 h tk I' oI' oC mC hv hg hj ha hcd hlt off1 off2 tr' F' hC' N'
  · rintro mC ys nx ⟨_, tl2, rfl, ha, hcd, hj⟩
    exact ⟨tl ++ tl2, by simp, ord_app o1 (ord_sub ha fun q hq => List.mem_append_left _ hq), by simpa using done ys tl2 hj⟩
theorem NSrcM.mkK2 {elt target : Expr} {ifs : List Expr} {gens : List Comprehension} {pos : Pos} {d : Nat} {l : Addr} {vs : List Value} {k : Nat} {led led9 NX tl tl' : Led} {I' : Addr} {oI' : Obj} {G : (Str → Option Value) → Prop} {P : Nat → List Value → Led → Prop} {i1 : Nat} (G' : (Str → Option Value) → Prop) (P' : Nat → List Value → Led → Prop) (F : Fr h₀ L s.heap m) (N : News h₀ L s.heap led) (hh : A.handled = none) (he : ∃ hh tk, s = { s₁ with heap := hh, toks := tk })
    (off1 : Off3 I' C D ((I, oI) :: (NX ++ tl))) (off2 : Off3 I C D (NX ++ tl)) (o1 : Above NX tl) (o3 : ∀ p ∈ tl, C < p.1 ∧ D < p.1) (o9 : ∀ q ∈ led9, ∀ p ∈ tl', q.1 < p.1) (s9 : ∀ q ∈ (I', oI') :: (C, oC) :: (D, lst ys) :: (I, oI) :: NX, q ∈ led9)
    (hsub : ∀ p ∈ (I', oI') :: (C, oC) :: (D, lst ys) :: (I, oI) :: (NX ++ (tl ++ tl')), p ∈ led) (hm : (l, listOf (List.toArray vs) k) ∈ (I, oI) :: (NX ++ (tl ++ tl'))) (hC : NsObj oC mC) (tr : Trip I' C D) (g0 : G' mC) (gg : ∀ mC, G' mC → G mC) (j0 : P' 0 ys ((I, oI) :: (NX ++ (tl ++ tl'))))
    (turn : ∀ (j : Nat) (v : Value) (ys : List Value) (tl2 : Led) (h : Heap) (tk : Nat) (I2 : Addr) (oI2 oC : Obj) (mC : Str → Option Value), vs[j]? = some v → G' mC → P' j ys (((I, oI) :: (NX ++ (tl ++ tl'))) ++ tl2) → Above ((I, oI) :: (NX ++ (tl ++ tl'))) tl2 → (∀ p ∈ tl2, C < p.1 ∧ D < p.1) → I' < I2 → Off3 I2 C D ((I', oI') :: (((I, oI) :: (NX ++ (tl ++ tl'))) ++ tl2)) → Off3 I' C D (((I, oI) :: (NX ++ (tl ++ tl'))) ++ tl2) → Trip I2 C D → Fr h₀ L h m → NsObj oC mC → News h₀ L h ((I2, oI2) :: (C, oC) :: (D, lst ys) :: (I', oI') :: (((I, oI) :: (NX ++ (tl ++ tl'))) ++ tl2)) →
      CTurnM prog w A h₀ L m (compEnvC scope cl C env) elt target ifs gens scope pos (d + 1) I2 oI2 C D (NKM I' oI' C D ((I, oI) :: (NX ++ (tl ++ tl'))) G' P' (j + 1)) v { s₁ with heap := h, toks := tk })
    (done : ∀ ys tl2, P' vs.length ys (((I, oI) :: (NX ++ (tl ++ tl'))) ++ tl2) → P i1 ys (NX ++ (tl ++ (tl' ++ tl2)))) : NSrcM prog w A h₀ L m (compEnvC scope cl C env) elt target ifs gens scope pos d I' oI' C D (NKM I oI C D NX G P i1) s₁ (.ref l) s := by
  have o2 := ord_sub o9 s9
  have a1 : ∀ p ∈ tl', C < p.1 ∧ D < p.1 := fun p hp => ⟨o2 _ (.tail _ (.head _)) p hp, o2 _ (.tail _ (.tail _ (.head _))) p hp⟩
  have a2 : ∀ p ∈ tl ++ tl', C < p.1 ∧ D < p.1 := fun p hp => (List.mem_append.mp hp).elim (o3 p) (a1 p)
  have off' : Off3 I' C D ((I, oI) :: (NX ++ (tl ++ tl'))) := by
    have := off3_of (tl := tl') off1 (fun p hp => o2 _ (.head _) p hp) a1
    simpa using this
  have off2' : Off3 I C D (NX ++ (tl ++ tl')) := by
    have := off3_of (tl := tl') off2 (fun p hp => o2 _ (.tail _ (.tail _ (.tail _ (.head _)))) p hp) a1
    simpa using this
  have o4 : Above NX (tl ++ tl') := ord_app o1 (ord_sub o2 fun _ h => .tail _ (.tail _ (.tail _ (.tail _ h))))
  refine ⟨l, vs, k, ys, (I, oI) :: (NX ++ (tl ++ tl')), oC, mC, fun j mC ys nx => G' mC ∧ CK C D ((I, oI) :: (NX ++ (tl ++ tl'))) P' j ys nx, rfl, hh, he, hm, F, hC, fun p hp => N p (hsub p hp), tr, off', ⟨g0, [], by simp, ktn_ord0, (fun _ h => nomatch h), by simpa using j0⟩, ?_, ?_, ?_⟩
  · rintro j mC ys nx ⟨_, tl2, rfl, _⟩; exact List.mem_append_left _ hm
  · rintro j v ys nx h tk I2 oI2 oC mC hv ⟨hg, tl2, rfl, ha, hcd, hj⟩ hlt off3 off4 tr' F' hC' N'
    exact turn j v ys tl2 h tk I2 oI2 oC mC hv hg hj ha hcd hlt off3 off4 tr' F' hC' N'
  · rintro mC ys nx ⟨hg, tl2, rfl, ha, hcd, hj⟩
    refine ⟨NX ++ (tl ++ (tl' ++ tl2)), by simp, ?_, gg _ hg, tl ++ (tl' ++ tl2), rfl, ?_, ?_, done ys tl2 hj⟩
    · have := off3_of (tl := tl2) off2' (fun p hp => ha _ (.head _) p hp) hcd
      simpa using this
    · rw [← List.append_assoc tl]
      exact ord_app o4 (ord_sub ha fun q hq => .tail _ (List.mem_append_left _ hq))
    · intro p hp
      rw [← List.append_assoc] at hp
      rcases List.mem_append.mp hp with hp | hp
      · exact a2 p hp
      · exact hcd p hp
theorem TJ.mk0 {nx₀ : Led} {P : Nat → List Value → Led → Prop} {i : Nat} {ys : List Value} (h : P i ys []) : TJ nx₀ P i ys nx₀ := fun tl e => by
  have e2 : tl = [] := by have := congrArg List.length e; rw [List.length_append] at this; exact List.length_eq_zero_iff.mp (by omega)
  rw [e2]; exact h
theorem cut_small {l : List Int} {n : Nat} (h : n = l.length) (hn : (n : Int) < 9) : cut l = l := by unfold cut; rw [if_pos (by omega)]
theorem cut_big {l : List Int} {n : Nat} (h : n = l.length) (hn : ¬ (n : Int) < 9) : cut l = l.take 1 := by unfold cut; rw [if_neg (by omega)]
theorem pairs_take {xs ys : List Int} {j : Nat} {n : Int} (h : xs[j]? = some n) : pairsOf (xs.take (j + 1)) ys = pairsOf (xs.take j) ys ++ ys.map fun b => (n, b) := by
  unfold pairsOf
  rw [List.take_add_one, h, List.flatMap_append]
  simp
end
end Mine
namespace Mine
theorem name_l0 {h₀ h : Heap} {L D : Addr} {vs : List Value} {led : Led} (_ : News h₀ L h ((D, listOf vs.toArray 0) :: led)) : ∃ D9 vs9, D9 = D ∧ vs9 = vs := ⟨D, vs, rfl, rfl⟩
end Mine

end
section
open PySem PySem.W PyProof.Rows PySem.Spec PySem.Calls
set_option maxRecDepth 100000
set_option maxHeartbeats 4000000
namespace Mine
section
variable {prog : Program} {w : World} {A : Around} {E : Value → Shared → Prop} {s : Shared}
theorem lk_keys : typeLookup (.type "list") "keys" = pure none := am_miss_of_fast (by kernel_rfl)
theorem keys_miss {a : Addr} {xs : Array Value} {k : Nat} {Q : Option Value → Shared → Prop}
    (hx : s.heap.get? a = some (listOf xs k)) (hA : A.handled = none)
    (h : ∀ h' tk, (∀ b ob, s.heap.get? b = some ob → h'.get? b = some ob) → Q none { s with heap := h', toks := tk }) :
    wpAny (model prog w) A (getAttr? (.ref a) (Str.ofString "keys")) Q E s := by
  obtain ⟨hp, g, d, tk, os⟩ := s
  have hT : ∀ tk', (⟨hp, g, d, tk', os⟩ : Shared).TypeIs (.ref a) "list" := fun _ => ⟨_, hx, rfl⟩
  have f1 := sub_AttributeError
  have f3 := F.slot_list_getattribute.lookup
  have f4 := F.slot_list_getattribute.bind (.ref a)
  have f5 := am_list_getattr_none
  unfold getAttr? getAttrBy? getAttrBy
  repeat (any_goals (first | assumption | exact hT _ | ((with_reducible show wpAny _ _ (call (Value.builtin "list.__getattribute__") _ _) _ _ _); refine call_meets F.slot_list_getattribute (hT _) am_entry_list_getattribute (F.args_list_getattribute_2 _ _) (meets_getattribute_miss_list a xs k _ (Str.ofString "keys") _ lk_keys (by decide) (by size_fits)) ⟨hx, hA, fun h' tk' e hx' => ?_⟩) | wp_step))
  obtain ⟨t', u', he⟩ := hx'.there
  show wpAny _ _ (getattributeRaised _ _ _ _ _ _ _) _ _ _
  unfold getattributeRaised
  repeat (any_goals (first | assumption | wp_step))
  exact h _ _ hx'.keeps
end
end Mine
namespace Mine
section
variable {prog : Program} {w : World} {A : Around} {E : Value → Shared → Prop} {s : Shared}
theorem entry_dul : entryFor table "dict.update.loop" = some Builtin.«dict.update.loop» := entryFor_of_tree (by kernel_rfl)
theorem plain_dul : plainId "dict.update.loop" = true := by decide +kernel
noncomputable abbrev tk2 (prog : Program) (w : World) : HeapKind prog w (List Int) := tupleKind (intKind prog w)
noncomputable def kOf (p : Int × Int) : List Int := [p.1, p.2]
/-- a pair and True -/
inductive DPAt (h : Heap) (v : Value) (p : Int × Int) : Prop
  | of9 : ∀ (a b : Addr) (n n' : Nat) (t u : Tok), (v = .ref a) → (h.get? a = some (tupO [.ref b, .bool true] n)) → (h.get? b = some (tupO [.int p.1 t, .int p.2 u] n')) → DPAt h v p
theorem atKey_none {xs : List (List Int × Addr × Value)} {k : List Int} (h : k ∉ xs.map (·.1)) : atKey xs k = none := by
  induction xs with
  | nil => rfl
  | cons x r ih =>
    have h1 : x.1 ≠ k := fun e => h (e ▸ List.mem_cons_self)
    have h2 := ih fun hm => h (List.mem_cons_of_mem _ hm)
    simp [atKey, h1]
    simpa [atKey] using h2
theorem kOf_inj {p q : Int × Int} (h : kOf p = kOf q) : p = q := by
  unfold kOf at h
  injection h with h1 h2
  injection h2 with h2
  exact Prod.ext h1 h2
theorem dict_loop {it l d : Addr} {vs : List Value} {k : Nat} {ps : List (Int × Int)} {R : Result → Shared → Prop} (hA : A.handled = none) (hu : A.units + 2 < cLine) (hitd : it ≠ d) (hld : l ≠ d) (hlit : l ≠ it) (hn : ps.Nodup) (hz : ps.length ≤ 10000)
    (h₁ : Heap) (hd₁ : ∀ b o, h₁.get? b = some o → b ≠ d ∧ b ≠ it) (hl₁ : h₁.get? l = some (listOf vs.toArray k)) (hv : All2 (DPAt h₁) vs ps) (hvl : vs.length = ps.length) :
    ∀ (j i : Nat) (s : Shared) (xs : List (List Int × Addr × Value)) (r : Int) (tr : Tok), i + j = ps.length → s.heap.IsListIter it l i → (∀ b o, h₁.get? b = some o → s.heap.get? b = some o) → s.heap.DictOfH (tk2 prog w) d xs → xs.map (·.1) = (ps.take i).map kOf →
      (∀ h' tk' xs', h'.DictOfH (tk2 prog w) d xs' → xs'.length = ps.length → (∀ b o, b ≠ d → b ≠ it → s.heap.get? b = some o → h'.get? b = some o) → R (.ok (.ret .none)) { s with heap := h', toks := tk' }) →
      codeAny (model prog w) A (.builtin "dict.update.loop" ⟨[.ref d, .ref it, .int r tr, .none], []⟩) R s
  | 0, i, s, xs, r, tr, hij, hit, hk, hd, hx, hQ => by
    refine codeAny_builtin entry_dul ?_
    rw [Around.under_plainId plain_dul]
    have hl : s.heap.IsList l vs.toArray := ⟨_, hk _ _ hl₁, rfl, k, rfl⟩
    unfold Builtin.«dict.update.loop»
    refine wpAny_bind (wpAny_pyNext_list_end hA hit hl (by simp; omega) fun h' he => ?_)
    refine wpAny_bind (wpAny_pure ?_)
    refine wpAny_pure ?_
    have hdd : h'.DictOfH (tk2 prog w) d xs := by
      obtain ⟨o, es, ep, ho, hc, hda, he', his, hnn⟩ := hd
      refine ⟨o, es, ep, he _ _ (Ne.symm hitd) ho, hc, hda, he', fun x hx => ?_, hnn⟩
      obtain ⟨o', items, n, ho', r'⟩ := his x hx
      refine ⟨o', items, n, he _ _ (fun q => ?_) ho', r'⟩
      obtain ⟨oi, hoi, hci, _⟩ := hit
      rw [q, hoi] at ho'
      cases ho'
      rw [hci] at r'
      exact absurd (Value.type.inj r'.1) (by decide)
    refine hQ h' _ xs hdd ?_ fun b o _ hb e => he _ _ hb e
    have := congrArg List.length hx
    rw [List.length_map, List.length_map, List.length_take] at this
    omega
  | j + 1, i, s, xs, r, tr, hij, hit, hk, hd, hx, hQ => by
    refine codeAny_builtin entry_dul ?_
    rw [Around.under_plainId plain_dul]
    have hl : s.heap.IsList l vs.toArray := ⟨_, hk _ _ hl₁, rfl, k, rfl⟩
    have hi : i < vs.length := by omega
    obtain ⟨v, p, hvi, hpi, a, b, n, n', t, u, rfl, ha, hb⟩ := hv.at hi
    unfold Builtin.«dict.update.loop»
    refine wpAny_bind (wpAny_pyNext_list_item hit hl (x := .ref a) (by simpa using hvi) fun h' hit' hs' => ?_)
    have k' : ∀ b o, h₁.get? b = some o → h'.get? b = some o := fun b o e => hs'.extBut _ _ (hd₁ _ _ e).2 (hk _ _ e)
    have hdd : h'.DictOfH (tk2 prog w) d xs := by
      obtain ⟨o, es, ep, ho, hc, hda, he', his, hnn⟩ := hd
      refine ⟨o, es, ep, hs'.extBut _ _ (Ne.symm hitd) ho, hc, hda, he', fun x hx => ?_, hnn⟩
      obtain ⟨o', items, n, ho', r'⟩ := his x hx
      refine ⟨o', items, n, hs'.extBut _ _ (fun q => ?_) ho', r'⟩
      obtain ⟨oi, hoi, hci, _⟩ := hit
      rw [q, hoi] at ho'
      cases ho'
      rw [hci] at r'
      exact absurd (Value.type.inj r'.1) (by decide)
    have hTa : ({ s with heap := h' } : Shared).TypeIs (.ref a) "tuple" := ⟨_, k' _ _ ha, rfl⟩
    have key : (tk2 prog w).is h' (kOf p) b := ⟨_, _, _, k' _ _ hb, rfl, rfl, .cons (by simp [intKind, Value.isInt]) (.cons (by simp [intKind, Value.isInt]) .nil)⟩
    have hnew : kOf p ∉ xs.map (·.1) := by
      rw [hx]
      intro hm
      obtain ⟨q, hq, e⟩ := List.mem_map.mp hm
      have e := kOf_inj e
      subst e
      obtain ⟨i', hi', e'⟩ := List.mem_iff_getElem.mp hq
      rw [List.getElem_take] at e'
      rw [List.length_take] at hi'
      have := (List.getElem?_eq_some_iff.mp hpi)
      obtain ⟨h1, h2⟩ := this
      exact List.pairwise_iff_getElem.mp hn i' i (by omega) h1 (by omega) (e'.trans h2.symm)
    refine wpAny_bind (wpAny_holding ?_)
    refine wpAny_bind (wpAny_tryCatch ?_)
    unfold Builtin.Dict.pairItems
    refine wpAny_bind (wpAny_typeOf hTa ?_)
    rw [if_pos (by decide)]
    refine wpAny_bind (wpAny_seqItems (k' _ _ ha) rfl (wpAny_pure ?_))
    dsimp only [Option.getD_some]
    refine wpAny_holding ?_
    refine wpAny_dictSet_heap (hsz := ?hsz) (knd := tk2 prog w) (k := kOf p) ?hroom key hdd fun h2 hd2 hs2 => ?_
    case hsz =>
      have := congrArg List.length hx
      rw [List.length_map, List.length_map, List.length_take] at this
      rw [sizeLine_eq]; omega
    case hroom => show A.in1.units < cLine; simp; omega
    rw [storedH_new (atKey_none hnew)] at hd2
    refine wpAny_pure ⟨Code.quiet_builtin _ (by decide +kernel), ?_⟩
    refine dict_loop hA hu hitd hld hlit hn hz h₁ hd₁ hl₁ hv hvl j (i + 1) _ (xs ++ [(kOf p, b, .bool true)]) _ _ (by omega) ?_ ?_ hd2 ?_ ?_
    · exact hit'.at fun o e => hs2.extBut _ _ hitd e
    · exact fun b o e => hs2.extBut _ _ (hd₁ _ _ e).1 (k' _ _ e)
    · rw [List.map_append, hx, List.take_add_one, hpi, List.map_append]; rfl
    · intro h3 tk3 xs3 hd3 hl3 hk3
      exact hQ h3 tk3 xs3 hd3 hl3 fun b o h1 h2 e => hk3 b o h1 h2 (hs2.extBut _ _ h1 (hs'.extBut _ _ h2 e))
end
end Mine
namespace Mine
section
variable {prog : Program} {w : World} {A : Around} {E : Value → Shared → Prop} {s : Shared}
theorem call_dict_pairs {l : Addr} {vs : List Value} {k : Nat} {ps : List (Int × Int)} {Q : Value → Shared → Prop} (hA : A.handled = none) (hu : A.units + 8 < cLine)
    (hl : s.heap.get? l = some (listOf vs.toArray k)) (hv : All2 (DPAt s.heap) vs ps) (hn : ps.Nodup) (hz : ps.length ≤ 10000)
    (h : ∀ h' tk' xs, h'.DictOfH (tk2 prog w) s.heap.objs.size xs → xs.length = ps.length → (∀ b o, s.heap.get? b = some o → h'.get? b = some o) → Q (.ref s.heap.objs.size) { s with heap := h', toks := tk' }) :
    wpAny (model prog w) A (call (.type "dict") [.ref l]) Q E s := by
  refine callType_codes (Q₁ := fun obj s₁ => obj = .ref s.heap.objs.size ∧ s₁ = { s with heap := s.heap.push { cls := .type "dict", data := .dict #[] } }) F.kt_called_dict (F.kt_typeCall_dict_1 _) F.entry_dict_init (kt_code_dict_new _ ⟨rfl, rfl⟩) ?_
  rintro obj s₁ ⟨rfl, rfl⟩
  have hnew : (s.heap.push { cls := .type "dict", data := .dict #[] }).DictOfH (tk2 prog w) s.heap.objs.size [] := Heap.DictOfH.new s.heap
  have hlp : (s.heap.push { cls := .type "dict", data := .dict #[] }).get? l = some (listOf vs.toArray k) := Heap.get?_push_of_some _ hl
  have hTd : ({ s with heap := s.heap.push { cls := .type "dict", data := .dict #[] } } : Shared).TypeIs (.ref s.heap.objs.size) "dict" := hnew.typeIs
  have hTl : ({ s with heap := s.heap.push { cls := .type "dict", data := .dict #[] } } : Shared).TypeIs (.ref l) "list" := ⟨_, hlp, rfl⟩
  refine ⟨hTd, F.args_dict_init_2 _ _, ?_⟩
  unfold Builtin.«dict.__init__»
  refine wpAny_bind ?_
  unfold Builtin.Dict.selfAndRest
  refine wpAny_bind (wpAny_notOrdered_dict hTd ?_)
  show wpAny _ _ (pure (s.heap.objs.size, [Value.ref l])) _ _ _
  refine wpAny_pure ?_
  show wpAny _ _ (Builtin.Dict.updateFrom "dict.__init__" s.heap.objs.size (.ref l) [] .none) _ _ _
  unfold Builtin.Dict.updateFrom
  refine wpAny_bind (wpAny_typeOf hTl ?_)
  rw [if_pos (by decide)]
  refine wpAny_bind (keys_miss hlp hA fun h1 tk1 k1 => ?_)
  rw [if_pos (by decide)]
  have hl1 : h1.IsList l vs.toArray := ⟨_, k1 _ _ hlp, rfl, k, rfl⟩
  refine wpAny_bind (wpAny_rule ?_)
  refine wpAny_bind (wpAny_pyIter_list hl1 ?_)
  refine wpAny_pure ⟨Code.quiet_builtin _ (by decide +kernel), ?_⟩
  have hD1 : h1.DictOfH (tk2 prog w) s.heap.objs.size [] := by
    obtain ⟨o, es, ep, ho, r⟩ := hnew
    exact ⟨o, es, ep, k1 _ _ ho, r.1, r.2.1, r.2.2.1, fun x hx => (by simp at hx), r.2.2.2.2⟩
  have hszD : s.heap.objs.size < h1.objs.size := by
    obtain ⟨o, es, ep, ho, r⟩ := hD1
    exact Heap.lt_size ho
  have up : ∀ b o, s.heap.get? b = some o → h1.get? b = some o := fun b o e => k1 _ _ (Heap.get?_push_of_some _ e)
  have upI : ∀ b o, h1.get? b = some o → (h1.push { cls := .type "list_iterator", data := .fields #[.ref l, .int 0 0] }).get? b = some o := fun b o e => Heap.get?_push_of_some _ e
  refine dict_loop (A := A.in1) (h₁ := s.heap) (ps := ps) hA (by show A.units + 1 + 2 < cLine; omega) (Nat.ne_of_gt hszD) (Nat.ne_of_lt (Heap.lt_size hl)) (Nat.ne_of_lt (Heap.lt_size (up _ _ hl))) hn hz (fun b o e => ⟨Nat.ne_of_lt (Heap.lt_size e), Nat.ne_of_lt (Heap.lt_size (up _ _ e))⟩) hl hv hv.length ps.length 0 _ [] _ _ (by omega) ⟨_, Heap.get?_push_size _ rfl, rfl, rfl⟩ (fun b o e => upI _ _ (up _ _ e)) ?_ rfl ?_
  · obtain ⟨o, es, ep, ho, r⟩ := hD1
    exact ⟨o, es, ep, upI _ _ ho, r.1, r.2.1, r.2.2.1, fun x hx => (by simp at hx), r.2.2.2.2⟩
  · intro h' tk' xs' hd' hx' hk'
    exact ⟨rfl, h h' tk' xs' hd' hx' fun b o e => hk' _ _ (Nat.ne_of_lt (Heap.lt_size e)) (Nat.ne_of_lt (Heap.lt_size (up _ _ e))) (upI _ _ (up _ _ e))⟩
end
end Mine
namespace Mine
noncomputable def LenD (o : Obj) (n : Nat) : Prop := o.ExactDict ∧ ∃ es ep, o.data = .dict es ep ∧ es.size = n
inductive DPIn (l : Led) (v : Value) (p : Int × Int) : Prop
  | of9 : ∀ (a b : Addr) (n n' : Nat) (t u : Tok), (v = .ref a) → ((a, tupO [.ref b, .bool true] n) ∈ l) → ((b, tupO [.int p.1 t, .int p.2 u] n') ∈ l) → DPIn l v p
theorem DPIn.mono {l l' : Led} {v : Value} {p : Int × Int} (h : DPIn l v p) (s : ∀ q ∈ l, q ∈ l') : DPIn l' v p := by
  obtain ⟨a, b, n, n', t, u, e, h1, h2⟩ := h
  exact ⟨a, b, n, n', t, u, e, s _ h1, s _ h2⟩
section
variable {prog : Program} {w : World} {A : Around} {E : Value → Shared → Prop} {s : Shared} {h₀ : Heap} {L : Addr} {m : Str → Option Value} {news : Led}
theorem dict_pairs_led {l : Addr} {vs : List Value} {k : Nat} {ps : List (Int × Int)} {Q : Value → Shared → Prop} (hA : A.handled = none) (hu : A.units + 8 < cLine) (F : Fr h₀ L s.heap m) (N : News h₀ L s.heap news) (hbig : sysModules < h₀.objs.size)
    (hm : (l, listOf vs.toArray k) ∈ news) (hv : All2 (DPIn news) vs ps) (hn : ps.Nodup) (hz : ps.length ≤ 10000)
    (h : ∀ D o h' tk', Fr h₀ L h' m → News h₀ L h' ((D, o) :: news) → (∀ p ∈ news, p.1 < D) → (D == sysModules) = false → LenD o ps.length → Q (.ref D) { s with heap := h', toks := tk' }) :
    wpAny (model prog w) A (call (.type "dict") [.ref l]) Q E s := by
  refine call_dict_pairs hA hu (N _ hm).1 (hv.imp fun v p x => ?_) hn hz fun h' tk' xs hd hx hk => ?_
  · obtain ⟨a, b, n, n', t, u, e, h1, h2⟩ := x
    exact ⟨a, b, n, n', t, u, e, (N _ h1).1, (N _ h2).1⟩
  · obtain ⟨o, es, ep, ho, hc, hda, he, _, _⟩ := hd
    refine h _ o h' tk' (F.keeps hk) (news_pushed F N hk ho rfl) (fun p hp => Heap.lt_size (N p hp).1) (F.notModules hbig) ⟨hc, es, ep, hda, ?_⟩
    rw [← hx, ← Array.length_toList, he, List.length_map]
theorem len_dictP {D : Addr} {o : Obj} {n : Nat} {Q : Value → Shared → Prop} (N : News h₀ L s.heap news) (hm : (D, o) ∈ news) (hs : (D == sysModules) = false) (hL : LenD o n) (hz : n ≤ 10000) (h : Q (.int n (s.toks + 1)) { s with toks := s.toks + 1 + 1 }) :
    wpAny (model prog w) A (call (.builtin "len") [.ref D]) Q E s := by
  obtain ⟨hc, es, ep, hda, hsz⟩ := hL
  have ho := (N _ hm).1
  have hT : s.TypeIs (.ref D) "dict" := ⟨o, ho, hc.1⟩
  refine Calls.call_function_entry kind_len plain_len entry_len (args_len1 _) ?_
  unfold Builtin.«len»
  refine wpAny_bind (m := oneArg "len" _) (wpAny_pure ?_)
  refine wpAny_bind (m := callSpecial? (.ref D) (Str.ofString "__len__")) (wpAny_callSpecial?_slot (name := Str.ofString "__len__") hT F.slot_dict_len
    (wpAny_call_entry F.slot_dict_len hT F.entry_dict_len ?_ (F.args_dict_len_1 _)))
  show wpAny _ _ (dictSize D >>= _) _ _ s
  unfold dictSize
  refine wpAny_bind (wpAny_bind (wpAny_dictEntries ho hda (wpAny_pure ?_)))
  show wpAny _ _ (Builtin.Dict.pendingCount D >>= _) _ _ s
  refine wpAny_bind (wpAny_pendingCount_other hs ?_)
  rw [show ((es.size : Int) + ((0 : Nat) : Int)) = (n : Int) by omega]
  refine wpAny_ret_mkInt ?_
  show wpAny _ _ _ _ _ { s with toks := s.toks + 1 }
  refine wpAny_bind (wpAny_holding (wpAny_pure ?_))
  refine wpAny_bind (wpAny_letGo ?_)
  show wpAny _ _ (if ((n : Nat) : Int) < 0 then _ else _) _ _ _
  rw [if_neg (by omega)]
  show wpAny _ _ (if ((n : Nat) : Int) ≥ 2 ^ 63 then _ else _) _ _ _
  rw [if_neg (by omega)]
  exact wpAny_bind (wpAny_mkInt (wpAny_pure ⟨_, rfl, h⟩))
end
theorem is_listF {h₀ h : Heap} {L a : Addr} {m : Str → Option Value} {vs : Array Value} (F : Fr h₀ L h m) (hl : h₀.IsList a vs) : h.IsList a vs := hl.at fun o e => F.keep _ _ e
end Mine

end
section
open PySem PySem.W PyProof.Rows PySem.Spec PySem.Calls
open LCg (NsObj ns_obj lst lst_snoc Off3 range_walks range_st)
set_option maxRecDepth 100000
namespace Mine
section
variable {prog : Program} {w : World} {A : Around} {s : Shared} {h₀ : Heap} {L : Addr} {m : Str → Option Value} {env cenv : Env}
theorem comp_coreJ {elt target iter : Expr} {ifs : List Expr} {gs : List Comprehension} {scope : Scope} {pos : Pos} {cl : List (Str × Addr)} {s₂ : Shared} {I : Addr} {fp : List Addr} {n : Nat} {PV : Nat → Value → Prop} {St : Nat → Heap → Prop} {S : Led → Prop} {cn : String} {nx₀ : Led} {E : Value → Shared → Prop}
    {RR : Value → Addr → Result → Shared → Prop} (J : Nat → List Value → Led → Prop)
    (hga : ∀ g', gs[0]? = some g' → g'.is_async = 0) (W : Walks prog w A I fp [I] n PV St) (hIo : ∀ i h, St i h → ∃ o, h.get? I = some o ∧ o.cls = .type cn)
    (hcn : ["enumerate", "zip", "dict_itemiterator", "dict_reverseitemiterator", "odict_iterator", "itertools.zip_longest", "itertools.pairwise"].contains cn = false)
    (hSt : ∀ i h h' o nw, St i h → h.get? I = some o → h'.get? I = some o → (∀ b o, h₀.get? b = some o → h'.get? b = some o) → News h₀ L h' nw → S nw → St i h')
    (hcell : ∀ y ∈ scope.names, y.2 ≠ .cell) (hkind : scope.kind = .function) (hst : St 0 s₂.heap) (hfp : ∀ b ∈ fp, b < s₂.heap.objs.size)
    (F : Fr h₀ L s₂.heap m) (N : News h₀ L s₂.heap nx₀) (hIL : L ≠ I) (hI₀ : h₀.get? I = none) (off : ∀ p ∈ nx₀, p.1 < I) (hS : ∀ i ys nx, J i ys nx → S nx) (j0 : J 0 [] nx₀)
    (turn : ∀ (i : Nat) (v : Value) (ys : List Value) (nx : Led) (h : Heap) (tk : Nat) (oI oC : Obj) (C D : Addr) (mC : Str → Option Value), i < n → PV i v → J i ys nx → Below3 nx₀ I C D → Off3 I C D nx → Trip I C D → Fr h₀ L h m → NsObj oC mC → News h₀ L h ((I, oI) :: (C, oC) :: (D, lst ys) :: nx) →
      CTurn prog w A h₀ L m (compEnvC scope cl C env) elt target ifs (⟨target, iter, ifs, 0⟩ :: gs) scope pos 0 I oI C D (J (i + 1)) v { s₂ with heap := h, toks := tk })
    (hRR : ∀ D C h tk m' ys nx oC, J n ys nx → (∀ q ∈ nx₀, q.1 < D) → Fr h₀ L h m → News h₀ L h ((D, lst ys) :: nx) → NsObj oC m' → h.get? C = some oC → h₀.get? C = none → C ≠ L → C ≠ D → (∀ p ∈ nx, p.1 ≠ C ∧ p.1 ≠ D) → RR (.ref D) C (.ok .next) { s₂ with heap := h, toks := tk }) :
    wpAny (model prog w) A (newList []) (fun acc s₃ => wpAny (model prog w) A (newFunctionEnv scope env.globals cl [] env.qual none .none (some env)) (fun cenv s₄ =>
      codeAny (model prog w) A (.compStart (.ListComp elt (⟨target, iter, ifs, 0⟩ :: gs) scope pos) 0 (.ref I) acc { cenv with scope := relabel scope env }) (RR acc cenv.locals) s₄) E s₃) E s₂ := by
  refine wpAny_newObj_type (wpAny_newFunctionEnv hcell (by intro y hy; simp at hy) (fun h₁ hns₁ hsb₁ => ?_) hkind)
  dsimp only at hns₁ hsb₁ ⊢
  generalize hH2 : s₂.heap.push { cls := .type "list", dict := none, data := .seq ([] : List Value).toArray } = H2 at hns₁ hsb₁ ⊢
  have hC : H2.objs.size = s₂.heap.objs.size + 1 := by rw [← hH2, Heap.size_push]
  have hDC : s₂.heap.objs.size ≠ H2.objs.size := by rw [hC]; exact Nat.ne_of_lt (Nat.lt_succ_self _)
  have below : ∀ b, b < s₂.heap.objs.size → b ≠ H2.objs.size ∧ b ≠ s₂.heap.objs.size := fun b hb => ⟨by rw [hC]; exact Nat.ne_of_lt (Nat.lt_succ_of_lt hb), Nat.ne_of_lt hb⟩
  have hIlt : I < s₂.heap.objs.size := hfp I (W.sub I (List.mem_singleton.mpr rfl))
  have old : ∀ b o, s₂.heap.get? b = some o → h₁.get? b = some o := fun b o e => hsb₁.extBut b o (below b (Heap.lt_size e)).1 (Heap.get?_push_of_some _ (hH2 ▸ Heap.get?_push_of_some _ e))
  have hacc : h₁.get? s₂.heap.objs.size = some (lst []) := hsb₁.extBut _ _ hDC (Heap.get?_push_of_some _ (hH2 ▸ Heap.get?_push_size _ rfl))
  have hst₁ : St 0 h₁ := W.frame _ _ _ hst fun b _ o e => old b o e
  have fresh₀ : ∀ a, s₂.heap.objs.size ≤ a → h₀.get? a = none := fun a ha => by
    cases e : h₀.get? a with
    | none => rfl
    | some o' => exact absurd (Heap.lt_size (F.keep a o' e)) (Nat.not_lt.mpr ha)
  have hD₀ : h₀.get? s₂.heap.objs.size = none := fresh₀ _ (Nat.le_refl _)
  have hC₀ : h₀.get? H2.objs.size = none := fresh₀ _ (by rw [hC]; exact Nat.le_succ _)
  have hLlt : L < s₂.heap.objs.size := F.ns.lt
  have hDL : s₂.heap.objs.size ≠ L := Ne.symm (below L hLlt).2
  have hCL : H2.objs.size ≠ L := Ne.symm (below L hLlt).1
  have hCI : I ≠ H2.objs.size := (below I hIlt).1
  have hDI : I ≠ s₂.heap.objs.size := (below I hIlt).2
  have hne : Trip I H2.objs.size s₂.heap.objs.size := ⟨hCI, hDI, Ne.symm hDC⟩
  have off₀ : Off3 I H2.objs.size s₂.heap.objs.size nx₀ := Off3.of fun p hp => ⟨Nat.ne_of_lt (off p hp), (below _ (Heap.lt_size (N p hp).1)).1, (below _ (Heap.lt_size (N p hp).1)).2⟩
  have b3 : Below3 nx₀ I H2.objs.size s₂.heap.objs.size := fun p hp => ⟨off p hp, by rw [hC]; exact Nat.lt_succ_of_lt (Heap.lt_size (N p hp).1), Heap.lt_size (N p hp).1⟩
  obtain ⟨oC₀, heC, hoC⟩ := ns_obj hns₁
  have F₁ : Fr h₀ L h₁ m := F.keeps old
  have N₁ : News h₀ L h₁ ((H2.objs.size, oC₀) :: (s₂.heap.objs.size, lst []) :: nx₀) := fun p hp => by
    rcases List.mem_cons.mp hp with rfl | hp
    · exact ⟨heC, hCL, hC₀⟩
    rcases List.mem_cons.mp hp with rfl | hp
    · exact ⟨hacc, hDL, hD₀⟩
    · exact ⟨old _ _ (N p hp).1, (N p hp).2⟩
  have loop : ∀ s₃ : Shared, s₃ = { s₂ with heap := h₁, toks := s₂.toks + ([] : List (Str × Value)).length } →
      codeAny (model prog w) A (.compLoop (.ListComp elt (⟨target, iter, ifs, 0⟩ :: gs) scope pos) 0 (.ref I) (.ref s₂.heap.objs.size) (compEnvC scope cl H2.objs.size env))
        (RR (.ref s₂.heap.objs.size) H2.objs.size) s₃ := by
    rintro s₃ rfl
    refine comp_level (S := S) (cn := cn) (elt := elt) (scope := scope) (pos := pos) rfl hga W hIo hcn hSt hst₁ F₁ hoC N₁ hIL hI₀ off₀ hne J j0 hS ?_ ?_
    · intro i v ys nx h tk oI oC mC hi hP hj off' F' hC' N'
      exact turn i v ys nx h tk oI oC _ _ mC hi hP hj b3 off' hne F' hC' N'
    · intro ys nx h tk oC mC hj off' F' hC' N'
      exact hRR _ _ h tk mC ys nx oC hj (fun q hq => (b3 q hq).2.2) F' (fun p hp => N' p (.tail _ hp)) hC' (N' _ (.head _)).1 hC₀ hCL (Ne.symm hDC) (fun p hp => (off'.mem p hp).2)
  exact codeAny_compStart_list (loop _ rfl) (W.self 0 _ _ _ hst₁ (loop _ rfl))

theorem CSrc.rangeJ {elt target iter : Expr} {ifs : List Expr} {gs : List Comprehension} {scope : Scope} {pos : Pos} {cl : List (Str × Addr)} {r : Addr} {a b : Int} {t u v : Tok} {n : Nat} {nx₀ : Led} {E : Value → Shared → Prop} {K : Addr → List Value → Led → Shared → Prop} (J : Nat → List Value → Led → Prop)
    (hr : IsRange s.heap r a b 1 t u v) (hsm : Builtin.Range.small a b 1 = true) (hn : Builtin.Range.rangeSize a b 1 = ((n : Nat) : Int)) (hh : A.handled = none) (F : Fr h₀ L s.heap m) (N : News h₀ L s.heap nx₀) (hcell : ∀ y ∈ scope.names, y.2 ≠ .cell) (hkind : scope.kind = .function) (hga : ∀ g', gs[0]? = some g' → g'.is_async = 0) (j0 : J 0 [] nx₀)
    (turn : ∀ (i : Nat) (tv : Tok) (ys : List Value) (nx : Led) (h : Heap) (tk : Nat) (I : Addr) (oI oC : Obj) (C D : Addr) (mC : Str → Option Value), i < n → J i ys nx → Below3 nx₀ I C D → Off3 I C D nx → Trip I C D → Fr h₀ L h m → NsObj oC mC → News h₀ L h ((I, oI) :: (C, oC) :: (D, lst ys) :: nx) →
      CTurn prog w A h₀ L m (compEnvC scope cl C env) elt target ifs (⟨target, iter, ifs, 0⟩ :: gs) scope pos 0 I oI C D (J (i + 1)) (.int (a + (i : Int)) tv) { s with heap := h, toks := tk })
    (done : ∀ (D : Addr) (ys : List Value) (nx : Led) (h : Heap) (tk : Nat), J n ys nx → (∀ q ∈ nx₀, q.1 < D) → K D ys nx { s with heap := h, toks := tk }) :
    CSrc prog w A h₀ L m env elt target iter ifs gs scope pos cl E K (.ref r) s := by
  intro RR hR
  refine wpAny_pyIter_range hr hsm ?_
  refine comp_coreJ (cn := "range_iterator") (S := fun _ => True) J hga (range_walks hh a n) (fun i h st => ⟨_, st, rfl⟩) (by decide) range_st hcell hkind (by show IsRangeIter _ _ _ _ _; rw [hn]; simpa using Heap.get?_push_size _ rfl) (fun b hb => ?_)
    (F.keeps fun _ _ e => Heap.get?_push_of_some _ e) (N.grown fun _ _ e => Heap.get?_push_of_some _ e) (Nat.ne_of_lt F.ns.lt) (next_is_new F) (fun p hp => Heap.lt_size (N p hp).1) (fun _ _ _ _ => trivial) j0 ?_ ?_
  · rw [List.mem_singleton.mp hb]
    show s.heap.objs.size < (s.heap.push _).objs.size
    rw [Heap.size_push]; exact Nat.lt_succ_self _
  · rintro i v ys nx h tk oI oC C D mC hi ⟨tv, rfl⟩ hj b3 off tr F' hC N'
    exact turn i tv ys nx h tk _ oI oC C D mC hi hj b3 off tr F' hC N'
  · intro D C h tk m' ys nx oC hj hD F' N' hC e e0 n1 n2 o1
    exact hR D C _ m' ys _ oC ⟨h, tk, rfl⟩ F' N' hC e e0 n1 n2 o1 (done D ys nx h tk hj hD)
end
end Mine
namespace Mine
/-- the same for a def that turns one object, with a word of what is new alone -/
noncomputable def SaysMT (w : World) (f : Addr) (dd uu : Nat) (a : Addr) (o : Obj) (news : Led) (vs : List Value) (Post : Obj → Led → Value → Prop) : Prop :=
  ∀ (mean : ExcName → Option Value) (mg mb : Str → Option Value) (dp un : Nat) (gd : Option (List Code)) (cn : Str) (cs : Scope) (ca : Addr) (ccd : Value) (cl : List (Str × Addr)) (outer : List Env) (A₀ : Around) (base h₀ : Heap) (L : Addr) (m : Str → Option Value) (s : Shared)
    (Q E : Value → Shared → Prop),
    Below A₀ base outer h₀ → Fr h₀ L s.heap m → (Mine.hd.heap_1 w.params).In h₀ → News h₀ L s.heap ((a, o) :: news) → Top vw lse mean mg mb h₀ → cs.kind = .function → dp + dd < recursionLimit → un + uu < cLine → (∀ p ∈ news, p.1 ≠ a) →
    (∀ r o' tl h' tk', Fr h₀ L h' m → News h₀ L h' ((a, o') :: (news ++ tl)) → (∀ q ∈ (a, o) :: news, ∀ p ∈ tl, q.1 < p.1) → Post o' tl r → Q r { s with heap := h', toks := tk' }) →
    wpAny (model prg w) (ktrTop dp un gd cn cs L ca ccd cl outer) (call (.ref f) vs) Q E s
theorem SaysMT.use {w : World} {f : Addr} {dd uu : Nat} {a : Addr} {o : Obj} {news led : Led} {vs : List Value} {Post : Obj → Led → Value → Prop} (H : SaysMT w f dd uu a o news vs Post)
    {mean : ExcName → Option Value} {mg mb : Str → Option Value} {dp un : Nat} {gd : Option (List Code)} {cn : Str} {cs : Scope} {ca : Addr} {ccd : Value} {cl : List (Str × Addr)} {outer : List Env} {A₀ : Around} {base h₀ : Heap} {L : Addr} {m : Str → Option Value} {s : Shared}
    {Q E : Value → Shared → Prop} (B : Below A₀ base outer h₀) (F : Fr h₀ L s.heap m) (X : (Mine.hd.heap_1 w.params).In h₀) (N : News h₀ L s.heap led) (hs : ∀ p ∈ (a, o) :: news, p ∈ led) (T : Top vw lse mean mg mb h₀) (hk : cs.kind = .function) (hd : dp + dd < recursionLimit) (hu : un + uu < cLine) (hne : ∀ p ∈ news, p.1 ≠ a)
    (ret : ∀ r o' tl h' tk', Fr h₀ L h' m → News h₀ L h' ((a, o') :: (news ++ tl)) → (∀ q ∈ (a, o) :: news, ∀ p ∈ tl, q.1 < p.1) → Post o' tl r → Q r { s with heap := h', toks := tk' }) :
    wpAny (model prg w) (ktrTop dp un gd cn cs L ca ccd cl outer) (call (.ref f) vs) Q E s := H _ _ _ _ _ _ _ _ _ _ _ _ _ _ _ _ _ _ _ _ B F X (fun p hp => N p (hs p hp)) T hk hd hu hne ret
/-- the call of _law_pool, as it stands: the walk stops here -/
noncomputable def PoolAt (prog : Program) (w : World) (A : Around) (vs : List Value) (Q E : Value → Shared → Prop) (s : Shared) : Prop := wpAny (model prog w) A (call (.ref 196) vs) Q E s
theorem pool_stop {prog : Program} {w : World} {A : Around} {vs : List Value} {Q E : Value → Shared → Prop} {s : Shared} (h : PoolAt prog w A vs Q E s) : wpAny (model prog w) A (call (.ref 196) vs) Q E s := h
theorem ne_pairs_false {prog : Program} {w : World} {A : Around} {E : Value → Shared → Prop} {s : Shared} {h₀ : Heap} {L : Addr} {news : Led} {a b : Addr} {ds : List (Int × Int)} {Q : Value → Shared → Prop} (N : News h₀ L s.heap news) (ha : ListIn PairIn news (.ref a) ds) (hb : ListIn PairIn news (.ref b) ds) (hu : A.units + 64 < cLine) (h : Q (.bool false) s) :
    wpAny (model prog w) A (compareOp .NotEq (.ref a) (.ref b)) Q E s := ne_pairs N ha hb hu (by simpa using h)
noncomputable def TakeAt (prog : Program) (w : World) (A : Around) (vs : List Value) (Q E : Value → Shared → Prop) (s : Shared) : Prop := wpAny (model prog w) A (call (.ref 203) vs) Q E s
theorem take_stop {prog : Program} {w : World} {A : Around} {vs : List Value} {Q E : Value → Shared → Prop} {s : Shared} (h : TakeAt prog w A vs Q E s) : wpAny (model prog w) A (call (.ref 203) vs) Q E s := h
theorem pow_bounds {b : Nat} (h : b ≤ 7) : (1 : Int) ≤ 2 ^ b ∧ (2 : Int) ^ b ≤ 128 := by
  have h1 : (0 : Int) < 2 ^ b := Int.pow_pos (by decide)
  exact ⟨by omega, ipow_le h⟩
theorem name_int {d : Int} (_ : 0 ≤ d) : ∃ d9, d9 = d := ⟨d, rfl⟩
noncomputable def MaskedAt (prog : Program) (w : World) (A : Around) (vs : List Value) (Q E : Value → Shared → Prop) (s : Shared) : Prop := wpAny (model prog w) A (call (.ref 261) vs) Q E s
theorem masked_stop {prog : Program} {w : World} {A : Around} {vs : List Value} {Q E : Value → Shared → Prop} {s : Shared} (h : MaskedAt prog w A vs Q E s) : wpAny (model prog w) A (call (.ref 261) vs) Q E s := h
theorem name_pair {h₀ h : Heap} {L a b : Addr} {o o' : Obj} (_ : News h₀ L h ((a, o) :: (b, o') :: [])) : ∃ o9 p9, o9 = o ∧ p9 = o' := ⟨o, o', rfl, rfl⟩
/-- the state of the comprehension that draws the rows -/
inductive RJ (w : World) (sA cA : Addr) (cO : Obj) (i : Nat) (ys : List Value) (nx : Led) : Prop
  | of9 : ∀ (o : Obj) (tl : Led) (ds : List WD), (nx = (sA, o) :: (cA, cO) :: tl) → (SrcOk o) → (∀ p ∈ tl, p.1 ≠ sA) → (ys.length = i) → (∀ d ∈ ds, WD.ok d) → (All2 (DictIn w tl) ys ds) → RJ w sA cA cO i ys nx
theorem SaysT.use {w : World} {f : Addr} {dd uu : Nat} {news : Led} {vs : List Value} {v : Value} (H : SaysT w f dd uu news vs v)
    {mean : ExcName → Option Value} {mg mb : Str → Option Value} {dp un : Nat} {gd : Option (List Code)} {cn : Str} {cs : Scope} {a : Addr} {ccd : Value} {cl : List (Str × Addr)} {outer : List Env} {A₀ : Around} {base h₀ : Heap} {L : Addr} {m : Str → Option Value} {s : Shared}
    {Q E : Value → Shared → Prop} (B : Below A₀ base outer h₀) (F : Fr h₀ L s.heap m) (X : (Mine.hd.heap_1 w.params).In base) (N : News h₀ L s.heap news) (T : Top vw lse mean mg mb base) (hk : cs.kind = .function) (hd : dp + dd < recursionLimit) (hu : un + uu < cLine)
    (ret : ∀ h' tk', base.StaysIn h' → Q v { s with heap := h', toks := tk' }) :
    wpAny (model prg w) (ktrTop dp un gd cn cs L a ccd cl outer) (call (.ref f) vs) Q E s := H _ _ _ _ _ _ _ _ _ _ _ _ _ _ _ _ _ _ _ _ B F X N T hk hd hu ret
theorem name_d {w : World} {l : Led} {v : Value} {d : WD} (_ : DictIn w l v d) : ∃ d9, d9 = d := ⟨d, rfl⟩
theorem name_o {o : Obj} (_ : SrcOk o) : ∃ o9, o9 = o := ⟨o, rfl⟩
end Mine

end
section
open PySem PySem.W PyProof.Rows PySem.Spec PySem.Calls
namespace Mine
/-- a statement's end, its continuation hidden behind a letter -/
noncomputable def Stop (Q : Flow → Shared → Prop) (f : Flow) (s : Shared) : Prop := Q f s
theorem Stop.go {Q K : Flow → Shared → Prop} (h : ∀ f s, K f s → Q f s) {f : Flow} {s : Shared} (k : K f s) : Stop Q f s := h f s k
theorem execs_cut {M : PySem.Model} {A : Around} {st : Stmt} {rest : List Stmt} {env : Env} {E : Value → Shared → Prop} {s : Shared} {Q : Flow → Shared → Prop}
    (h : ∀ Q' : Flow → Shared → Prop, (∀ f s', (match f with | .next => wpAny M A (execs rest env) Q E s' | f => Q f s') → Q' f s') → wpAny M A (exec st env) (Stop Q') E s) :
    wpAny M A (execs (st :: rest) env) Q E s := wpAny_execs_cons (h _ fun _ _ k => k)
/-- what a call handed back, taken apart at one stroke (the goal stands once in the term) -/
theorem ListIn.imp {α : Type} {R : Led → Value → α → Prop} {l : Led} {r : Value} {d : List α} {C : Value → Prop}
    (k : ∀ a n vs, (a, listOf vs.toArray n) ∈ l → All2 (R l) vs d → C (.ref a)) : ListIn R l r d → C r := by
  rintro ⟨a, n, vs, rfl, h, h'⟩
  exact k a n vs h h'
theorem IntsIn.imp {l : Led} {r : Value} {d : List Int} {C : Value → Prop}
    (k : ∀ a n vs, (a, W.listOf vs.toArray n) ∈ l → PyProof.Rows.IntsAre vs d → C (.ref a)) : IntsIn l r d → C r := by
  rintro ⟨a, n, vs, rfl, h, h'⟩
  exact k a n vs h h'
theorem ints_imp {l : Led} {r : Value} {d : List Int} {G C : Value → Prop}
    (k : ∀ a n vs, (a, W.listOf vs.toArray n) ∈ l → PyProof.Rows.IntsAre vs d → G (.ref a) → C (.ref a)) : (IntsIn l r d ∧ G r) → C r := by
  rintro ⟨⟨a, n, vs, rfl, h, h'⟩, g⟩
  exact k a n vs h h' g
theorem PairIn.imp {l : Led} {r : Value} {d : Int × Int} {C : Value → Prop}
    (k : ∀ a n t u, (a, tupO [.int d.1 t, .int d.2 u] n) ∈ l → C (.ref a)) : PairIn l r d → C r := by
  rintro ⟨a, n, t, u, rfl, h⟩
  exact k a n t u h
theorem RuleIn.imp {w : World} {act : Str} {l : Led} {r : Value} {d : WD} {C : Value → Prop} (k : ∀ a, RuleIn w act l (.ref a) d → C (.ref a)) : RuleIn w act l r d → C r := by
  intro h
  obtain ⟨a, rfl⟩ := RuleIn.isRef h
  exact k a h
theorem LotIn.imp {l : Led} {r : Value} {d : Lots} {C : Value → Prop} (k : ∀ a, LotIn l (.ref a) d → C (.ref a)) : LotIn l r d → C r := by
  intro h
  obtain ⟨a, rfl⟩ := LotIn.isRef h
  exact k a h
theorem take_imp {G : Prop} {r : Value} {top : Int} {C : Value → Prop} (k : G → ∀ d t, 0 ≤ d → d < top → C (.int d t)) : (G ∧ ∃ d t, r = .int d t ∧ 0 ≤ d ∧ d < top) → C r := by
  rintro ⟨g, d, t, rfl, h, h'⟩
  exact k g d t h h'
theorem wish_imp {G : Prop} {O : Wish → Prop} {l : Led} {r : Value} {C : Value → Prop} (k : G → ∀ d, O d → ∀ a, WishIn l (.ref a) d → C (.ref a)) : (G ∧ ∃ d : Wish, O d ∧ WishIn l r d) → C r := by
  rintro ⟨g, d, o, h⟩
  obtain ⟨a, rfl⟩ := WishIn.isRef h
  exact k g d o a h
theorem dict_imp {w : World} {G : Prop} {O : WD → Prop} {l : Led} {r : Value} {C : Value → Prop} (k : G → ∀ d, O d → ∀ a, DictIn w l (.ref a) d → C (.ref a)) : (G ∧ ∃ d : WD, O d ∧ DictIn w l r d) → C r := by
  rintro ⟨g, d, o, h⟩
  obtain ⟨a, rfl⟩ := DictIn.isRef h
  exact k g d o a h
theorem any_imp {r : Value} {n : Int} {C : Value → Prop} (k : ∀ t, C (.int n t)) : (∃ t, r = .int n t) → C r := by
  rintro ⟨t, rfl⟩
  exact k t
end Mine

end
section
open PySem PySem.W PyProof.Rows PySem.Spec PySem.Calls
open LCg (NsObj lst Off3)
set_option maxRecDepth 100000
set_option maxHeartbeats 8000000
set_option linter.unusedSimpArgs false
set_option linter.unusedVariables false
namespace Mine
theorem fill_F : PySem.Challenge.rw_pc0368_01.Holds ∧ Mine.hd.heap_1 = Mine.hd.heap_1 → True := by
  k_fill
  exact fun _ => trivial
-- one ledger lies in another but for its cells
local macro_rules | `(tactic| walk_at $s:str) => do let k := Lean.Syntax.mkStrLit ("X " ++ s.getString); `(tactic| k_extra $k)
theorem kw1 : True := by
  k_with "X my subC" => (first | exact subC_nil | ((with_reducible refine subC_cell (by assumption) ?_); k_extra "X my subC") | ((with_reducible refine subC_cons ?_ ?_); (focus k_extra "X my mem0"); k_extra "X my subC") | ((with_reducible refine subC_app ?_ ?_) <;> k_extra "X my subC") | (refine subC_leaf ?_; k_extra "X my leaf"))
  k_with "X my mem0" => (first | exact List.mem_cons_self | with_reducible assumption | ((with_reducible refine List.mem_cons_of_mem _ ?_); k_extra "X my mem0") | ((with_reducible refine List.mem_append_left _ ?_); k_extra "X my mem0") | ((with_reducible refine List.mem_append_right _ ?_); k_extra "X my mem0"))
  k_with "X my mem" => (first | k_extra "X my mem0" | exact mem_sub (by with_reducible assumption) (by k_extra "X my sub") | exact mem_subC (by with_reducible assumption) (fun z9z3 e9z3 => nomatch e9z3) (by k_extra "X my subC"))
  trivial
local macro_rules | `(tactic| k_mem) => `(tactic| (try k_extra "X my mem"))
theorem kw2 : True := by
  k_with "X testChain" => ((simp only [evalEach]; with_reducible refine test_link ?_))
  k_with "X subscriptTail Name Slice ref ref" => ((k_here; (with_reducible show wpAny _ _ (subscriptTail _ (PySem.Expr.Slice _ _ none _) (Value.ref _) (Value.ref _)) _ _ _); k_dflt (refine' tup_tail ?Fz5 ?Nz5 ?lz5 ?_ ?sz5 ?tz5; (case Fz5 => k_asm); (case Nz5 => k_asm); (case lz5 => k_mem); (case sz5 => with_unfolding_all rfl); (case tz5 => kmk_pure)); intro D'z5 h'z5 F'z5 N'z5 l1z5; (try k_lt l1z5); (try k_sweep)))
  k_with "X my leaf" => (first | (with_reducible exact sub_refl) | ((with_reducible refine sub_cons ?_); k_extra "X my leaf") | ((with_reducible refine sub_appL ?_); k_extra "X my leaf") | ((with_reducible refine sub_appR ?_); k_extra "X my leaf") | (with_reducible assumption))
  k_with "X my sub" => (first | (with_reducible exact sub_nil) | ((with_reducible refine sub_of_cons ?_ ?_); (focus k_extra "X my mem0"); k_extra "X my sub") | ((with_reducible refine sub_of_app ?_ ?_) <;> k_extra "X my sub") | k_extra "X my leaf")
  k_with "X my lt" => (first | with_reducible assumption | exact lt_nil | ((with_reducible refine lt_cons ?_ ?_); (focus first | with_reducible assumption | exact at_lt (by with_reducible assumption) (by k_extra "X my mem0") | exact at_above (by with_reducible assumption) (by k_extra "X my mem0") (by k_extra "X my mem0") | (refine ltN ?_; omega) | exact at_lt (by assumption) (by k_extra "X my mem") | exact at_above (by assumption) (by k_extra "X my mem") (by k_extra "X my mem")); k_extra "X my lt") | exact lt_sub (by with_reducible assumption) (by k_extra "X my sub") | exact lt_all (by with_reducible assumption) (by k_extra "X my sub") | exact lt_and (by with_reducible assumption) (by k_extra "X my sub") | exact lt_and2 (by with_reducible assumption) (by k_extra "X my sub") | exact lt_and3 (by with_reducible assumption) (by k_extra "X my sub") | exact lt_and4 (by with_reducible assumption) (by k_extra "X my sub") | exact lt_and5 (by with_reducible assumption) (by k_extra "X my sub") | exact lt_and6 (by with_reducible assumption) (by k_extra "X my sub") | exact lt_and7 (by with_reducible assumption) (by k_extra "X my sub") | exact lt_and8 (by with_reducible assumption) (by k_extra "X my sub"))
  k_with "X my ord" => (first | exact ktn_ord0 | with_reducible assumption | assumption | ((with_reducible refine ord_cons ?_ ?_); (focus k_extra "X my lt"); k_extra "X my ord") | exact ord_sub (by assumption) (by k_extra "X my sub") | ((with_reducible refine ord_app ?_ ?_) <;> k_extra "X my ord") | ((with_reducible refine ord_left ?_ ?_); (focus exact above_at (by assumption) (by k_extra "X my mem")); k_extra "X my ord"))
  k_with "X ForPost" => ((refine ForPost.ret ?_))
  k_with "X eval ListComp" => ((k_here; k_dflt (refine' comp_eval ?Fz11 (by with_unfolding_all rfl) (by rfl) (by decide) ?_; (case Fz11 => k_asm))))
  k_with "X exec Assign cons ListComp" => ((k_here; k_dflt (refine' comp_store ?Fz12 ?Lz12 (by with_unfolding_all rfl) (by with_unfolding_all rfl) (by rfl) (by decide) (by rfl) (by rfl) ?_; (case Fz12 => k_asm); (case Lz12 => rfl))))
  k_with "X exec While Compare cons nil" => ((k_here; refine while_stop ?_))
  k_with "X WPost" => ((refine WPost.ret ?_))
  trivial
local macro_rules | `(tactic| k_all) => `(tactic| k_extra "X my ne")
theorem kw3 : True := by
  k_with "X my split" => (first | exact split0 | exact split1 | exact split2 | exact split3 | exact split4 | exact split5)
  k_with "X my ne" => (first | exact ne_nil | with_reducible assumption | ((with_reducible refine ne_cons ?_ ?_); (focus first | k_extra "X my neq" | (symm; k_extra "X my neq")); k_extra "X my ne") | ((with_reducible refine ne_app ?_ ?_) <;> k_extra "X my ne") | exact ne_above (by assumption) (by k_extra "X my mem") | exact ne_sub (by with_reducible assumption) (by k_extra "X my sub") | exact ne_lt (by with_reducible assumption) (by k_extra "X my sub") | exact ne_lts (by k_extra "X my lt"))
  k_with "X newTuple" => ((k_here; k_dflt (refine' kup_newTuple ?Fz17 ?Nz17 ?_ ?zz17; (case Fz17 => k_asm); (case Nz17 => k_asm); (case zz17 => kmk_size)); intro D'z17 h'z17 F'z17 N'z17 l1z17; (try k_lt l1z17); (try k_sweep)))
  k_with "X compareOp In int ref" => ((k_here; k_dflt (first | (refine' kda_in (knd := PySem.intKind _ _) ?Nz18 ?pz18 ?dz18 ?loz18 (intKind_is _ _ _ _) true ?bz18 ?_; (case Nz18 => k_asm); (case pz18 => k_extra "X my mem"); (case dz18 => assumption); (case loz18 => assumption); (case bz18 => assumption)) | (refine' kda_in (knd := PySem.intKind _ _) ?Nz18 ?pz18 ?dz18 ?loz18 (intKind_is _ _ _ _) false ?bz18 ?_; (case Nz18 => k_asm); (case pz18 => k_extra "X my mem"); (case dz18 => assumption); (case loz18 => assumption); (case bz18 => assumption)) | (refine' kda_in (knd := PySem.intKind _ _) ?Nz18 ?pz18 ?dz18 ?loz18 (intKind_is _ _ _ _) true ?bz18 ?_; (case Nz18 => k_asm); (case pz18 => k_extra "X my mem"); (case dz18 => assumption); (case loz18 => assumption); (case bz18 => exact rfl)) | (refine' kda_in (knd := PySem.intKind _ _) ?Nz18 ?pz18 ?dz18 ?loz18 (intKind_is _ _ _ _) false ?bz18 ?_; (case Nz18 => k_asm); (case pz18 => k_extra "X my mem"); (case dz18 => assumption); (case loz18 => assumption); (case bz18 => exact rfl)))))
  k_with "X compareOp NotIn int ref" => ((k_here; k_dflt (first | (refine' kdg_notin (knd := PySem.intKind _ _) ?Nz19 ?pz19 ?dz19 ?loz19 (intKind_is _ _ _ _) true ?bz19 ?_; (case Nz19 => k_asm); (case pz19 => k_extra "X my mem"); (case dz19 => assumption); (case loz19 => assumption); (case bz19 => assumption)) | (refine' kdg_notin (knd := PySem.intKind _ _) ?Nz19 ?pz19 ?dz19 ?loz19 (intKind_is _ _ _ _) false ?bz19 ?_; (case Nz19 => k_asm); (case pz19 => k_extra "X my mem"); (case dz19 => assumption); (case loz19 => assumption); (case bz19 => assumption)) | (refine' kdg_notin (knd := PySem.intKind _ _) ?Nz19 ?pz19 ?dz19 ?loz19 (intKind_is _ _ _ _) true ?bz19 ?_; (case Nz19 => k_asm); (case pz19 => k_extra "X my mem"); (case dz19 => assumption); (case loz19 => assumption); (case bz19 => exact rfl)) | (refine' kdg_notin (knd := PySem.intKind _ _) ?Nz19 ?pz19 ?dz19 ?loz19 (intKind_is _ _ _ _) false ?bz19 ?_; (case Nz19 => k_asm); (case pz19 => k_extra "X my mem"); (case dz19 => assumption); (case loz19 => assumption); (case bz19 => exact rfl)))))
  k_with "X getItem ref int" => ((k_here; k_dflt (refine' kdt_getItem (knd := PySem.intKind _ _) ?Nz20 ?pz20 ?dz20 (intKind_is _ _ _ _) ?bz20 ?_; (case Nz20 => k_asm); (case pz20 => k_extra "X my mem"); (case dz20 => assumption); (case bz20 => first | rfl | assumption))))
  k_with "X subscriptTail" => ((k_here; (with_reducible show wpAny _ _ (subscriptTail _ _ (Value.ref _) (Value.int _ _)) _ _ _); k_dflt (refine' kda_item (knd := PySem.intKind _ _) ?Nz21 ?pz21 ?dz21 (intKind_is _ _ _ _) ?bz21 ?_; (case Nz21 => k_asm); (case pz21 => k_extra "X my mem"); (case dz21 => assumption); (case bz21 => first | rfl | assumption))))
  k_with "X call type:list" => ((k_here; (with_reducible show wpAny _ _ (call (Value.type _) [Value.ref _]) _ _ _); k_dflt (refine' list_upto ?hz22 ?Fz22 ?Nz22 ?rz22 ?bz22 ?nz22 ?_; (case hz22 => rfl); (case Fz22 => k_asm); (case Nz22 => k_asm); (case rz22 => assumption); (case bz22 => first | exact (rfl : (8 : Int) = ((8 : Nat) : Int)) | exact (rfl : (256 : Int) = ((256 : Nat) : Int))); (case nz22 => decide)); intro D'z22 h'z22 tk'z22 ys'z22 k'z22 F'z22 N'z22 l1z22 hI'z22; (try k_lt l1z22)))
  k_with "X compareOp In int ref" => ((k_here; k_dflt (refine' in_list_ints ?lz23 ?iz23 ?_; (case lz23 => exact News.isList (by k_asm) (by k_extra "X my mem")); (case iz23 => assumption))))
  k_with "X compareOp Eq ref ref" => ((k_here; (with_reducible show wpAny _ _ (compareOp CmpOp.Eq (Value.ref _) (Value.ref _)) _ _ _); k_dflt (refine' ke_eq_ints ?az24 ?bz24 ?iz24 ?jz24 ?uz24 ?_; (case az24 => exact News.isList (by k_asm) (by k_extra "X my mem")); (case bz24 => exact News.isList (by k_asm) (by k_extra "X my mem")); (case iz24 => first | assumption | exact IntsAre.nil); (case jz24 => first | assumption | exact IntsAre.nil); (case uz24 => ktr_units))))
  k_with "X compareOp NotEq ref ref" => ((k_here; (with_reducible show wpAny _ _ (compareOp CmpOp.NotEq (Value.ref _) (Value.ref _)) _ _ _); k_dflt (refine' ke_ne_ints ?az25 ?bz25 ?iz25 ?jz25 ?uz25 ?_; (case az25 => exact News.isList (by k_asm) (by k_extra "X my mem")); (case bz25 => exact News.isList (by k_asm) (by k_extra "X my mem")); (case iz25 => first | assumption | exact IntsAre.nil); (case jz25 => first | assumption | exact IntsAre.nil); (case uz25 => ktr_units))))
  k_with "X call builtin:len" => ((k_here; (with_reducible show wpAny _ _ (call (Value.builtin "len") [Value.ref _]) _ _ _); k_dflt (refine' len_listL ?lz26 ?zz26 ?_; (case lz26 => exact News.isList (by k_asm) (by k_extra "X my mem")); (case zz26 => omega); k_whole)))
  k_with "X call builtin:sorted" => ((k_here; (with_reducible show wpAny _ _ (call (Value.builtin "sorted") [Value.ref _]) _ _ _); k_dflt (refine' sorted_kvs ?srt_hhz27 ?srt_Fz27 ?srt_Nz27 ?srt_mz27 ?srt_sz27 ?srt_oz27 ?srt_nz27 ?srt_pz27 ?_; (case srt_hhz27 => first | exact rfl | assumption); (case srt_Fz27 => k_asm); (case srt_Nz27 => k_asm); (case srt_mz27 => k_extra "X my mem"); (case srt_sz27 => assumption); (case srt_oz27 => assumption); (case srt_nz27 => first | assumption | simp); (case srt_pz27 => first | assumption | simp)); intro B9z27 h9z27 tk9z27 vs9z27 c9z27 F9z27 N9z27 l9z27 i9z27; (first | (have e9z27 := ints0 i9z27; subst e9z27; clear i9z27) | (obtain ⟨t9z27, e9z27⟩ := ints1 i9z27; subst e9z27; clear i9z27) | (obtain ⟨t9z27, u9z27, e9z27⟩ := ints2 i9z27; subst e9z27; clear i9z27) | skip); (try k_fold)))
  k_with "X call type:dict" => ((k_here; (with_reducible show wpAny _ _ (call (Value.type "dict") [Value.ref _]) _ _ _); k_dflt (refine' dict_copy ?srt_Fz28 ?srt_Nz28 ?srt_bz28 ?srt_mz28 ?srt_sz28 ?srt_oz28 ?srt_nz28 ?_; (case srt_Fz28 => k_asm); (case srt_Nz28 => k_asm); (case srt_bz28 => exact modules_low (Top.nolimit (by k_asm))); (case srt_mz28 => k_extra "X my mem"); (case srt_sz28 => assumption); (case srt_oz28 => assumption); (case srt_nz28 => first | assumption | simp)); intro B9z28 h9z28 o9z28 F9z28 N9z28 l9z28 s9z28 d9z28; (try k_fold)))
  trivial
local macro_rules | `(tactic| ktr_units) => `(tactic| k_extra "X my ktr_units")
theorem kw4 : True := by
  k_with "X my ktr_units" => ((have hcL9z29 := cLine_is; ((try simp only [units_under_type, units_in1, units_deeper, Around.mark_units, units_caller] at *); (try dsimp only [ktrTop] at *); omega)))
  k_with "X my neq" => (first | with_reducible assumption | exact ne_off (by with_reducible assumption) (by k_extra "X my mem0") | exact ne_off' (by with_reducible assumption) (by k_extra "X my mem0") | exact Nat.ne_of_gt (at_lt (by with_reducible assumption) (by k_extra "X my mem0")) | exact Nat.ne_of_lt (at_lt (by with_reducible assumption) (by k_extra "X my mem0")) | (refine neN ?_; omega))
  trivial
local macro_rules | `(tactic| k_upd) => `(tactic| k_extra "X my k_upd")
theorem kw5 : True := by
  k_with "X my k_upd" => (first | (refine' Upd.head ?updAz31; (case updAz31 => k_extra "X my ne")) | (refine' Upd.tail ?updAz31 ?updBz31; (case updAz31 => k_extra "X my neq"); (case updBz31 => k_upd)))
  k_with "X getMethod ref" => ((k_here; (with_reducible show wpAny _ _ (getMethod (Value.ref _) (Str.ofString "get") _) _ _ _); k_dflt (refine' kdg_method (knd := PySem.intKind _ _) ?dgNz32 ?dgpz32 ?dgdz32 ?_; (case dgNz32 => k_asm); (case dgpz32 => k_extra "X my mem"); (case dgdz32 => assumption))))
  k_with "X call builtin:dict.get" => ((k_here; k_dflt (refine' kdg_get1 (knd := PySem.intKind _ _) ?dgNz33 ?dgpz33 ?dgdz33 ?dgloz33 (intKind_is _ _ _ _) _ ?dgbz33 ?_; (case dgNz33 => k_asm); (case dgpz33 => k_extra "X my mem"); (case dgdz33 => assumption); (case dgloz33 => assumption); (case dgbz33 => first | assumption | rfl)); (try dsimp only [Option.getD])))
  k_with "X ForPost" => ((refine ForPost.brk ?_))
  k_with "X subscriptTail" => ((k_here; (with_reducible show wpAny _ _ (subscriptTail _ _ (Value.ref _) (Value.int _ _)) _ _ _); k_dflt (refine' item_led ?itLz35 ?itKz35 ?itXz35 ?itZz35 ?_; (case itLz35 => exact News.isList (by k_asm) (by k_extra "X my mem")); (case itKz35 => first | exact Int.zero_add _ | exact rfl); (case itXz35 => assumption); (case itZz35 => omega))))
  k_with "X compareOp NotIn int ref" => ((k_here; k_dflt (refine' notin_list_ints ?lz36 ?iz36 ?_; (case lz36 => exact News.isList (by k_asm) (by k_extra "X my mem")); (case iz36 => assumption))))
  trivial
local macro_rules | `(tactic| k_updF) => `(tactic| k_extra "X my k_updF")
theorem kw6 : True := by
  k_with "X my k_updF" => (first | (refine' UpdF.head ?updAz37; (case updAz37 => k_extra "X my ne")) | (refine' UpdF.tail ?updAz37 ?updBz37; (case updAz37 => k_extra "X my neq"); (case updBz37 => k_updF)))
  k_with "X compareOp Eq ref ref" => ((k_here; (with_reducible show wpAny _ _ (compareOp CmpOp.Eq (Value.ref _) (Value.ref _)) _ _ _); k_dflt (refine' eq_pairs ?epNz38 ?epAz38 ?epBz38 ?epUz38 ?_; (case epNz38 => k_asm); (case epAz38 => exact ListIn.monoP (by with_reducible assumption) (by k_extra "X my sub")); (case epBz38 => exact ListIn.monoP (by with_reducible assumption) (by k_extra "X my sub")); (case epUz38 => ktr_units))))
  k_with "X compareOp NotEq ref ref" => ((k_here; (with_reducible show wpAny _ _ (compareOp CmpOp.NotEq (Value.ref _) (Value.ref _)) _ _ _); k_dflt (refine' ne_pairs ?epNz39 ?epAz39 ?epBz39 ?epUz39 ?_; (case epNz39 => k_asm); (case epAz39 => exact ListIn.monoP (by with_reducible assumption) (by k_extra "X my sub")); (case epBz39 => exact ListIn.monoP (by with_reducible assumption) (by k_extra "X my sub")); (case epUz39 => ktr_units))))
  k_with "X binaryOp Add ref ref" => ((k_here; (with_reducible show wpAny _ _ (binaryOp Operator.Add (Value.ref _) (Value.ref _)) _ _ _); k_dflt (refine' add_led ?adFz40 ?adNz40 ?adlz40 ?adbz40 ?adzz40 ?_; (case adFz40 => k_asm); (case adNz40 => k_asm); (case adlz40 => k_extra "X my mem"); (case adbz40 => k_extra "X my mem"); (case adzz40 => omega)); intro D'z40 h'z40 F'z40 N'z40 l1z40; (try k_lt l1z40); (try k_sweep)))
  k_with "X call ref" => ((k_here; (with_reducible show wpAny _ _ (call (Value.ref 45) _) _ _ _); refine raise_stop ?_))
  k_with "X execs cons" => (first | (k_here; k_made; walk_at "execs cons") | (k_here; k_gentoks) | ((with_reducible refine execs_cut ?_); intro stQz42 stHz42))
  k_with "X Stop" => (((with_reducible refine Stop.go (by with_reducible assumption) ?_); (try dsimp only)))
  trivial
section
theorem anew_F9 : True := by
  w_top off
  trivial
inductive RJ1 (news : Led) (f : Addr) (bits : Nat) (lo0 hi : Int) (m₀ : Str → Option Value) (n : Nat) (m : Str → Option Value) (nx : Led) : Prop
  | of9 : ∀ (lo : Int) (tlo : Tok) (vs : List Value) (k : Nat) (tl : Led) (ds : List (Int × Int)), (m (Str.ofString "low") = some (.int lo tlo)) → (∀ z, z ≠ Str.ofString "low" → z ≠ Str.ofString "size" → m z = m₀ z) → (nx = (f, listOf vs.toArray k) :: (news ++ tl)) → (∀ p ∈ news ++ tl, p.1 ≠ f) → (Above news tl) → (All2 (PairIn (news ++ tl)) vs ds) → (0 ≤ lo) → (lo ≤ 512) → (rm bits lo0 hi = ds ++ rm bits lo hi) → (n = (hi + 1 - lo).toNat) → ((vs.length : Int) ≤ lo) → RJ1 news f bits lo0 hi m₀ n m nx
inductive RJ2 (nx₀ : Led) (bits : Nat) (lo hi : Int) (m₁ : Str → Option Value) (n : Nat) (m : Str → Option Value) (nx : Led) : Prop
  | of9 : ∀ (j : Nat) (ts : Tok), (m (Str.ofString "size") = some (.int (2 ^ j) ts)) → (∀ z, z ≠ Str.ofString "size" → m z = m₁ z) → (nx = nx₀) → (n = j) → (j ≤ bits) → ((2 : Int) ^ j ∣ lo) → (∀ j', j < j' → j' ≤ bits → (2 : Int) ^ j' ∣ lo → hi < lo + 2 ^ j' - 1) → RJ2 nx₀ bits lo hi m₁ n m nx
theorem range_masks_says {w : World} {news : Led} {bits : Nat} {lo hi : Int} {t u v : Tok} (hb : bits ≤ 8) (h0 : 0 ≤ lo) (hlo : lo ≤ 256) (h1 : hi < 2 ^ bits) :
   Says w 128 1 8 news [.int lo t, .int hi u, .int bits v] (fun l r => ListIn PairIn l r (rm bits lo hi)) := by
  have hp8 : (2 : Int) ^ bits ≤ 256 := by have := pow_le256 hb; exact_mod_cast this
  (unfold Says; intro mean mg mb dp un gd cn cs a ccd cl outer A₀ base h₀ L m s Q E B F X N T hk hd hu hret; refine wpAny_call ?_; k_dflt ktr_enter)
  k_steps
  rename ∀ (p : Addr × Obj), p ∈ news → _ => l9
  rename News _ _ _ (_ :: _ :: news) => N9
  refine while_led (RJ1 news _ bits lo hi _) (hi + 1 - lo).toNat (by assumption) N9 (nx₀ := (_, listOf (List.toArray []) 0) :: (news ++ [])) (by k_extra "X my sub") ⟨lo, t, [], 0, [], [], rfl, fun _ _ _ => rfl, rfl, (fun p hp => by rw [List.append_nil] at hp; exact Nat.ne_of_lt (l9 p hp)), ktn_ord0, .nil, h0, by omega, by simp, rfl, h0⟩ ?_
  · rintro n m nx h tk ⟨lo', tlo, vs, k, tl, ds, hm1, hm2, rfl, hne, hab, hA, g0, g1, gs, rfl, gl⟩ F1 N1
    have F2 := frame_ps [(Str.ofString "low", .int lo' tlo)] [Str.ofString "size"] (by simpa using hm1) (by intro z h2 h3; exact hm2 z (h2 _ (.head _)) (by simpa using h3)) F1
    clear F1
    k_steps
    · have hpos : 0 < lo' := by omega
      have hlh : lo' ≤ hi := by omega
      obtain ⟨j, ej, dj, mj0⟩ := low_bit hpos (by omega)
      have hj : j ≤ bits := by
        by_cases hc : j ≤ bits
        · exact hc
        · exfalso
          have q1 : (2 : Int) ^ bits ∣ lo' := Int.dvd_trans (ipow_dvd (by omega)) dj
          have q2 := Int.le_of_dvd hpos q1
          omega
      have mj : ∀ j', j < j' → j' ≤ bits → (2 : Int) ^ j' ∣ lo' → hi < lo' + 2 ^ j' - 1 := fun j' a _ c => absurd c (mj0 j' a)
      refine while_led (RJ2 ((_, listOf vs.toArray k) :: (news ++ tl)) bits lo' hi _) j (by assumption) (by assumption) (by k_extra "X my sub") ⟨j, _, (by rw [← ej]; rfl), fun _ _ => rfl, rfl, rfl, hj, dj, mj⟩ ?_
      clear ej hj dj mj
      rintro n m nx h tk ⟨j, ts, hn1, hn2, rfl, rfl, hj, dj, mj⟩ F1 N1
      obtain ⟨S, eS⟩ : ∃ S : Int, S = 2 ^ n := ⟨_, rfl⟩
      have pS : 1 ≤ S := by rw [eS]; exact Int.pow_pos (by decide)
      have qS : S ≤ 256 := by rw [eS]; exact Int.le_trans (ipow_le hj) hp8
      rw [← eS] at hn1 dj
      have F2 := frame_ps [(Str.ofString "size", .int S ts)] [] (by simpa using hn1) (by intro z h2 h3; exact hn2 z (h2 _ (.head _))) F1
      clear F1
      k_steps
      · have hj1 : 1 ≤ n := by
          by_cases hc : n = 0
          · subst hc
            have : S = 1 := by rw [eS]; rfl
            omega
          · omega
        have hh : S = 2 * 2 ^ (n - 1) := by
          rw [eS, Int.mul_comm, ← Int.pow_succ]
          congr 1
          omega
        have hf : S.fdiv 2 = 2 ^ (n - 1) := by rw [Int.fdiv_eq_ediv_of_nonneg _ (by decide)]; omega
        refine' WPost.mk (n - 1) ?w1 ?w2 ?w3 ?w4 ⟨n - 1, _, ?w5, ?w6, rfl, rfl, by omega, ?w7, ?w8⟩
        case w1 => k_asm
        case w2 => k_asm
        case w3 => k_extra "X my sub"
        case w4 => omega
        case w5 => exact congrArg (fun x => some (Value.int x _)) hf
        case w6 => intro z hz; simp [kstB, hz]
        case w7 => exact Int.dvd_trans (ipow_dvd (by omega)) (eS ▸ dj)
        case w8 =>
          intro j' a1 a2 a3
          by_cases hc : j' = n
          · subst hc; rw [← eS]; omega
          · exact mj j' (by omega) a2 a3
      · rename News _ _ _ ((_, _) :: (_, _) :: (news ++ tl)) => N9
        rename _ ∧ AllLt _ _ => l8
        have hv : (1 * 2 ^ ((bits : Nat) : Int).toNat - 1 - (S - 1) : Int) = 2 ^ bits - S := by
          have e : (1 * 2 ^ ((bits : Nat) : Int).toNat : Int) = 2 ^ bits := by simp
          rw [e]; omega
        rw [hv] at N9
        simp only [List.push_toArray] at N9
        refine' WPost.mk (hi + 1 - (lo' + S)).toNat ?w1 N9 ?w3 ?w4 ⟨lo' + S, _, vs ++ [Value.ref _], k + 1, tl ++ [(_, tupO [Value.int lo' _, Value.int (2 ^ bits - S) _] 0)], ds ++ [(lo', 2 ^ bits - S)], ?w0, ?w5, rfl, ?w6, ?w7, ?w8, by omega, by omega, ?w9, rfl, ?w10⟩
        case w3 => k_extra "X my sub"
        case w1 => k_asm
        case w0 => exact rfl
        case w4 => omega
        case w5 => (intro z h1 h2; simp [kstB, h1, h2] <;> exact hm2 z h1 h2)
        case w6 =>
          intro p hp
          rcases List.mem_append.mp hp with hp | hp
          · exact hne p (List.mem_append.mpr (.inl hp))
          rcases List.mem_append.mp hp with hp | hp
          · exact hne p (List.mem_append.mpr (.inr hp))
          · rw [List.mem_singleton.mp hp]; exact Nat.ne_of_gt l8.1
        case w7 => exact ord_app hab (ord_cons (lt_all l8.2 (by k_extra "X my sub")) ktn_ord0)
        case w8 => exact All2.append (hA.imp fun _ _ x => PairIn.mono x (by k_extra "X my sub")) (.cons (PairIn.mk (by k_mem)) .nil)
        case w9 =>
          rw [gs, List.append_assoc, eS, rm_step g0 hlh h1 hj (eS ▸ dj) (by rw [← eS]; omega) mj]
          rfl
        case w10 => simp; omega
    · have hz : lo' = 0 := by omega
      have hlh : lo' ≤ hi := by omega
      obtain ⟨j, ej, hj, dj, mj⟩ : ∃ j : Nat, 1 * 2 ^ ((bits : Nat) : Int).toNat = (2 : Int) ^ j ∧ j ≤ bits ∧ (2 : Int) ^ j ∣ lo' ∧ ∀ j', j < j' → j' ≤ bits → (2 : Int) ^ j' ∣ lo' → hi < lo' + 2 ^ j' - 1 :=
        ⟨bits, by simp, Nat.le_refl _, by rw [hz]; exact Int.dvd_zero _, fun j' a b _ => absurd b (by omega)⟩
      refine while_led (RJ2 ((_, listOf vs.toArray k) :: (news ++ tl)) bits lo' hi _) j (by assumption) (by assumption) (by k_extra "X my sub") ⟨j, _, (by rw [← ej]; rfl), fun _ _ => rfl, rfl, rfl, hj, dj, mj⟩ ?_
      clear ej hj dj mj
      rintro n m nx h tk ⟨j, ts, hn1, hn2, rfl, rfl, hj, dj, mj⟩ F1 N1
      obtain ⟨S, eS⟩ : ∃ S : Int, S = 2 ^ n := ⟨_, rfl⟩
      have pS : 1 ≤ S := by rw [eS]; exact Int.pow_pos (by decide)
      have qS : S ≤ 256 := by rw [eS]; exact Int.le_trans (ipow_le hj) hp8
      rw [← eS] at hn1 dj
      have F2 := frame_ps [(Str.ofString "size", .int S ts)] [] (by simpa using hn1) (by intro z h2 h3; exact hn2 z (h2 _ (.head _))) F1
      clear F1
      k_steps
      · have hj1 : 1 ≤ n := by
          by_cases hc : n = 0
          · subst hc
            have : S = 1 := by rw [eS]; rfl
            omega
          · omega
        have hh : S = 2 * 2 ^ (n - 1) := by
          rw [eS, Int.mul_comm, ← Int.pow_succ]
          congr 1
          omega
        have hf : S.fdiv 2 = 2 ^ (n - 1) := by rw [Int.fdiv_eq_ediv_of_nonneg _ (by decide)]; omega
        refine' WPost.mk (n - 1) ?w1 ?w2 ?w3 ?w4 ⟨n - 1, _, ?w5, ?w6, rfl, rfl, by omega, ?w7, ?w8⟩
        case w1 => k_asm
        case w2 => k_asm
        case w3 => k_extra "X my sub"
        case w4 => omega
        case w5 => exact congrArg (fun x => some (Value.int x _)) hf
        case w6 => intro z hz; simp [kstB, hz]
        case w7 => exact Int.dvd_trans (ipow_dvd (by omega)) (eS ▸ dj)
        case w8 =>
          intro j' a1 a2 a3
          by_cases hc : j' = n
          · subst hc; rw [← eS]; omega
          · exact mj j' (by omega) a2 a3
      · rename News _ _ _ ((_, _) :: (_, _) :: (news ++ tl)) => N9
        rename _ ∧ AllLt _ _ => l8
        have hv : (1 * 2 ^ ((bits : Nat) : Int).toNat - 1 - (S - 1) : Int) = 2 ^ bits - S := by
          have e : (1 * 2 ^ ((bits : Nat) : Int).toNat : Int) = 2 ^ bits := by simp
          rw [e]; omega
        rw [hv] at N9
        simp only [List.push_toArray] at N9
        refine' WPost.mk (hi + 1 - (lo' + S)).toNat ?w1 N9 ?w3 ?w4 ⟨lo' + S, _, vs ++ [Value.ref _], k + 1, tl ++ [(_, tupO [Value.int lo' _, Value.int (2 ^ bits - S) _] 0)], ds ++ [(lo', 2 ^ bits - S)], ?w0, ?w5, rfl, ?w6, ?w7, ?w8, by omega, by omega, ?w9, rfl, ?w10⟩
        case w3 => k_extra "X my sub"
        case w1 => k_asm
        case w0 => exact rfl
        case w4 => omega
        case w5 => (intro z h1 h2; simp [kstB, h1, h2] <;> exact hm2 z h1 h2)
        case w6 =>
          intro p hp
          rcases List.mem_append.mp hp with hp | hp
          · exact hne p (List.mem_append.mpr (.inl hp))
          rcases List.mem_append.mp hp with hp | hp
          · exact hne p (List.mem_append.mpr (.inr hp))
          · rw [List.mem_singleton.mp hp]; exact Nat.ne_of_gt l8.1
        case w7 => exact ord_app hab (ord_cons (lt_all l8.2 (by k_extra "X my sub")) ktn_ord0)
        case w8 => exact All2.append (hA.imp fun _ _ x => PairIn.mono x (by k_extra "X my sub")) (.cons (PairIn.mk (by k_mem)) .nil)
        case w9 =>
          rw [gs, List.append_assoc, eS, rm_step g0 hlh h1 hj (eS ▸ dj) (by rw [← eS]; omega) mj]
          rfl
        case w10 => simp; omega
    · (refine' hret _ ((_, listOf vs.toArray k) :: tl) _ _ ?e1 ?e2 ?e3 ?_; (case e1 => k_asm); (case e2 => exact News.sub (by k_asm) (by k_extra "X my sub")); (case e3 => k_extra "X my ord"))
      have hgt : hi < lo' := by omega
      rw [rm_nil hgt, List.append_nil] at gs
      rw [gs]
      exact ⟨_, k, vs, rfl, by k_mem, hA.imp fun _ _ x => PairIn.mono x (by k_extra "X my sub")⟩

theorem off_F9 : True := by
  k_with "off F9" => skip
  trivial
end
section
theorem anew_F1 : True := by
  w_top off
  trivial
theorem is_mask_within_raw {w : World} {news : Led} {v v' : Value} {d d' : Int × Int} (ha : PairIn news v d) (hb : PairIn news v' d') :
   Says w 142 1 8 news [v, v'] (fun _ r => r = .bool (Builtin.bitAnd d.2 d'.2 == d'.2 && Builtin.bitAnd d.1 d'.2 == d'.1)) := by
  obtain ⟨_, _, _, _, rfl, _⟩ := ha; obtain ⟨_, _, _, _, rfl, _⟩ := hb
  (unfold Says; intro mean mg mb dp un gd cn cs a ccd cl outer A₀ base h₀ L m s Q E B F X N T hk hd hu hret; refine wpAny_call ?_; k_dflt ktr_enter)
  k_steps
  all_goals ((refine' hret _ [] _ _ ?e1 (ktn_tl0 ?e2) ktn_ord0 ?_; (case e1 => k_asm); (case e2 => first | k_asm | exact News.sub (by k_asm) (by k_extra "X my sub"))); simp_all)
theorem do_masks_meet_raw {w : World} {news : Led} {v v' : Value} {d d' : Int × Int} (ha : PairIn news v d) (hb : PairIn news v' d') :
   Says w 149 1 8 news [v, v'] (fun _ r => r = .bool (Builtin.bitAnd (Builtin.bitAnd (Builtin.bitXor d.1 d'.1) d.2) d'.2 == 0)) := by
  obtain ⟨_, _, _, _, rfl, _⟩ := ha; obtain ⟨_, _, _, _, rfl, _⟩ := hb
  (unfold Says; intro mean mg mb dp un gd cn cs a ccd cl outer A₀ base h₀ L m s Q E B F X N T hk hd hu hret; refine wpAny_call ?_; k_dflt ktr_enter)
  k_steps
  all_goals ((refine' hret _ [] _ _ ?e1 (ktn_tl0 ?e2) ktn_ord0 ?_; (case e1 => k_asm); (case e2 => first | k_asm | exact News.sub (by k_asm) (by k_extra "X my sub"))); simp_all)
theorem is_mask_within_says {w : World} {news : Led} {v v' : Value} {d d' : Int × Int} (ha : PairIn news v d) (hb : PairIn news v' d') :
   Says w 142 1 8 news [v, v'] (fun _ r => r = .bool (maskWithin d d')) := is_mask_within_raw ha hb
theorem do_masks_meet_says {w : World} {news : Led} {v v' : Value} {d d' : Int × Int} (ha : PairIn news v d) (hb : PairIn news v' d') :
   Says w 149 1 8 news [v, v'] (fun _ r => r = .bool (masksMeet d d')) := do_masks_meet_raw ha hb

theorem off_F1 : True := by
  k_with "off F1" => skip
  trivial
end
section
theorem anew_F3 : True := by
  w_top off
  trivial
theorem rm3 {w : World} {news : Led} {lo hi : Int} {t u v : Tok} (h0 : 0 ≤ lo) (hlo : lo ≤ 256) (h1 : hi < 8) :
   Says w 128 1 8 news [.int lo t, .int hi u, .int 3 v] (fun l r => ListIn PairIn l r (rm 3 lo hi)) := range_masks_says (bits := 3) (by omega) h0 hlo (by simpa using h1)
theorem kw7 : True := by
  k_with "X call ref" => ((fail_if_success k_extra "off F3"); ((k_here; (with_reducible show wpAny _ _ (call (Value.ref 128) _) _ _ _); k_dflt (refine' Says.use (rm3 ?h0z44 ?hlz44 ?h1z44) ?kBz44 ?kFz44 ?kXz44 ?kNz44 ?kTz44 ?kKz44 ?kDz44 ?kUz44 ?_; (case kBz44 => k_asm); (case kFz44 => k_asm); (case kXz44 => k_asm); (case kNz44 => k_asm); (case kTz44 => k_asm); (case kKz44 => first | exact rfl | assumption); (case kDz44 => ktr_room); (case kUz44 => ktr_units)); ((case h0z44 => omega); (case hlz44 => omega); (case h1z44 => omega)); intro r9z44 tl9z44 h9z44 tk9z44 F9z44 N9z44 o9z44 p9z44; (try replace p9z44 := TPost.get p9z44); (try dsimp only [List.nil_append, List.cons_append] at N9z44); (try simp only [List.nil_append, List.cons_append, List.append_nil, List.append_assoc] at N9z44); (try dsimp only [List.nil_append, List.cons_append] at p9z44); (try simp only [List.nil_append, List.cons_append, List.append_nil, List.append_assoc] at p9z44); (revert p9z44; (first | with_reducible apply ListIn.imp | with_reducible apply IntsIn.imp); intro a9z44 n9z44 v9z44 m9z44 q9z44; clear r9z44); (try dsimp only); (try k_fold))))
  trivial
theorem wish_masks_says3 {w : World} {news : Led} {v : Value} {d : Wish} {tt : Tok} (ha : WishIn news v d) (ok : d.ok 3) :
   Says w 135 2 16 news [v, .int 3 tt] (fun l r => ListIn PairIn l r (d.masks 3)) := by
  cases ha <;> simp only [Wish.ok] at ok
  all_goals (unfold Says; intro mean mg mb dp un gd cn cs a ccd cl outer A₀ base h₀ L m s Q E B F X N T hk hd hu hret; refine wpAny_call ?_; k_dflt ktr_enter)
  all_goals k_steps
  · (refine' hret _ _ _ _ ?e1 ?e2 ?e3 ?_; (case e1 => k_asm); (case e2 => first | exact ktn_tl0 (by k_asm) | k_asm | exact ktn_tl1 (by k_asm) | exact ktn_tl2 (by k_asm) | exact tl2 (by k_asm) | exact tlb2 (by k_asm) | exact tl3 (by k_asm) | exact tlb3 (by k_asm)); (case e3 => k_extra "X my ord"))
    exact ListIn.mk (by k_mem) (.cons (PairIn.mk (by k_mem)) .nil)
  · (refine' hret _ _ _ _ ?e1 ?e2 ?e3 ?_; (case e1 => k_asm); (case e2 => first | exact ktn_tl0 (by k_asm) | k_asm | exact ktn_tl1 (by k_asm) | exact ktn_tl2 (by k_asm) | exact tl2 (by k_asm) | exact tlb2 (by k_asm) | exact tl3 (by k_asm) | exact tlb3 (by k_asm)); (case e3 => k_extra "X my ord"))
    exact ListIn.mk (by k_mem) (by assumption)
theorem wish_ends_says3 {w : World} {news : Led} {v : Value} {d : Wish} {tt : Tok} (ha : WishIn news v d) (ok : d.ok 3) :
   Says w 156 1 8 news [v, .int 3 tt] (fun l r => PairIn l r (d.ends 3)) := by
  cases ha <;> simp only [Wish.ok] at ok
  all_goals (unfold Says; intro mean mg mb dp un gd cn cs a ccd cl outer A₀ base h₀ L m s Q E B F X N T hk hd hu hret; refine wpAny_call ?_; k_dflt ktr_enter)
  all_goals k_steps
  · (refine' hret _ _ _ _ ?e1 ?e2 ?e3 ?_; (case e1 => k_asm); (case e2 => first | exact ktn_tl0 (by k_asm) | k_asm | exact ktn_tl1 (by k_asm) | exact ktn_tl2 (by k_asm) | exact tl2 (by k_asm) | exact tlb2 (by k_asm) | exact tl3 (by k_asm) | exact tlb3 (by k_asm)); (case e3 => k_extra "X my ord"))
    exact PairIn.mk ktn_new
  · (refine' hret _ _ _ _ ?e1 ?e2 ?e3 ?_; (case e1 => k_asm); (case e2 => first | exact ktn_tl0 (by k_asm) | k_asm | exact ktn_tl1 (by k_asm) | exact ktn_tl2 (by k_asm) | exact tl2 (by k_asm) | exact tlb2 (by k_asm) | exact tl3 (by k_asm) | exact tlb3 (by k_asm)); (case e3 => k_extra "X my ord"))
    exact PairIn.mk ktn_new

theorem off_F3 : True := by
  k_with "off F3" => skip
  trivial
end
section
theorem anew_F5 : True := by
  w_top off
  trivial
theorem kw8 : True := by
  k_with "X exec For Name Call cons nil" => ((fail_if_success k_extra "off F5"); ((k_here; (rename Fr _ _ _ _ => lF'z45); (with_unfolding_all refine' for_led lF'z45 ?_))))
  k_with "X call ref" => ((fail_if_success k_extra "off F5"); ((k_here; (with_reducible show wpAny _ _ (call (Value.ref 135) _) _ _ _); k_dflt (refine' Says.use (wish_masks_says3 ?h0z46 ?h1z46) ?kBz46 ?kFz46 ?kXz46 ?kNz46 ?kTz46 ?kKz46 ?kDz46 ?kUz46 ?_; (case kBz46 => k_asm); (case kFz46 => k_asm); (case kXz46 => k_asm); (case kNz46 => k_asm); (case kTz46 => k_asm); (case kKz46 => first | exact rfl | assumption); (case kDz46 => ktr_room); (case kUz46 => ktr_units)); ((case h0z46 => assumption); (case h1z46 => assumption)); intro r9z46 tl9z46 h9z46 tk9z46 F9z46 N9z46 o9z46 p9z46; (try replace p9z46 := TPost.get p9z46); (try dsimp only [List.nil_append, List.cons_append] at N9z46); (try simp only [List.nil_append, List.cons_append, List.append_nil, List.append_assoc] at N9z46); (try dsimp only [List.nil_append, List.cons_append] at p9z46); (try simp only [List.nil_append, List.cons_append, List.append_nil, List.append_assoc] at p9z46); (revert p9z46; (first | with_reducible apply ListIn.imp | with_reducible apply IntsIn.imp); intro a9z46 n9z46 v9z46 m9z46 q9z46; clear r9z46); (try dsimp only); (try k_fold))))
  k_with "X call ref" => ((fail_if_success k_extra "off F5"); ((k_here; (with_reducible show wpAny _ _ (call (Value.ref 156) _) _ _ _); k_dflt (refine' Says.use (wish_ends_says3 ?h0z47 ?h1z47) ?kBz47 ?kFz47 ?kXz47 ?kNz47 ?kTz47 ?kKz47 ?kDz47 ?kUz47 ?_; (case kBz47 => k_asm); (case kFz47 => k_asm); (case kXz47 => k_asm); (case kNz47 => k_asm); (case kTz47 => k_asm); (case kKz47 => first | exact rfl | assumption); (case kDz47 => ktr_room); (case kUz47 => ktr_units)); ((case h0z47 => assumption); (case h1z47 => assumption)); intro r9z47 tl9z47 h9z47 tk9z47 F9z47 N9z47 o9z47 p9z47; (try replace p9z47 := TPost.get p9z47); (try dsimp only [List.nil_append, List.cons_append] at N9z47); (try simp only [List.nil_append, List.cons_append, List.append_nil, List.append_assoc] at N9z47); (try dsimp only [List.nil_append, List.cons_append] at p9z47); (try simp only [List.nil_append, List.cons_append, List.append_nil, List.append_assoc] at p9z47); (revert p9z47; with_reducible apply PairIn.imp; intro a9z47 n9z47 t9z47 u9z47 m9z47; clear r9z47); (try dsimp only); (try k_fold))))
  k_with "X call ref" => ((fail_if_success k_extra "off F5"); ((k_here; (with_reducible show wpAny _ _ (call (Value.ref 142) _) _ _ _); k_dflt (refine' Says.use (is_mask_within_says ?h0z48 ?h1z48) ?kBz48 ?kFz48 ?kXz48 ?kNz48 ?kTz48 ?kKz48 ?kDz48 ?kUz48 ?_; (case kBz48 => k_asm); (case kFz48 => k_asm); (case kXz48 => k_asm); (case kNz48 => k_asm); (case kTz48 => k_asm); (case kKz48 => first | exact rfl | assumption); (case kDz48 => ktr_room); (case kUz48 => ktr_units)); ((case h0z48 => exact PairIn.mono (by assumption) (by k_extra "X my sub")); (case h1z48 => exact PairIn.mk (by k_mem))); intro r9z48 tl9z48 h9z48 tk9z48 F9z48 N9z48 o9z48 p9z48; (try replace p9z48 := TPost.get p9z48); (try dsimp only [List.nil_append, List.cons_append] at N9z48); (try simp only [List.nil_append, List.cons_append, List.append_nil, List.append_assoc] at N9z48); (try dsimp only [List.nil_append, List.cons_append] at p9z48); (try simp only [List.nil_append, List.cons_append, List.append_nil, List.append_assoc] at p9z48); (subst p9z48); (try dsimp only); (try k_fold))))
  trivial
theorem is_wish_within_says3 {w : World} {news : Led} {v v' : Value} {d d' : Wish} {tt : Tok} (ha : WishIn news v d) (hb : WishIn news v' d') (ok : d.ok 3) (ok' : d'.ok 3) :
   Says w 163 3 24 news [v, v', .int 3 tt] (fun _ r => r = .bool (d.within 3 d')) := by
  have hv : ∃ a, v = .ref a := by cases ha <;> exact ⟨_, rfl⟩
  obtain ⟨a, rfl⟩ := hv
  rcases hb with @⟨b, n, x, y, _, _, _, hb⟩ | @⟨b, n, x, y, _, _, _, hb⟩
  all_goals (unfold Says; intro mean mg mb dp un gd cn cs a ccd cl outer A₀ base h₀ L m s Q E B F X N T hk hd hu hret; refine wpAny_call ?_; k_dflt ktr_enter)
  all_goals k_steps
  · rename All2 _ _ _ => hA
    refine' ForSrc.search [Str.ofString "row"] (fun i => ((d.masks 3).take i).all (fun p => maskWithin p (x, y)) = true) ?hm rfl (by assumption) (by assumption) rfl ?_ ?_
    case hm => k_mem
    · intro i v tl u h tk I oI hv hp ho off F1 N1
      obtain ⟨q, hq, hR⟩ := hA.get hv
      obtain ⟨_, _, _, _, rfl, hR'⟩ := id hR
      k_steps
      · (refine' ForPost.search (tl' := []) ?f1 ?f2 ?f3 ?f4 ?f5 ktn_ord0 ?f6 ?_; (case f2 => k_asm); (case f3 => k_asm); (case f1 => assumption); (case f4 => k_extra "X my sub"); (case f5 => assumption); (case f6 => (intro z hz; (simp only [List.contains_cons, List.contains_nil, Bool.or_false, Bool.or_eq_false_iff, beq_eq_false_iff_ne, ne_eq] at hz); (simp [hz]; done))))
        rw [List.take_add_one, hq]
        simp_all
      · (refine' hret _ [] _ _ ?e1 (ktn_tl0 ?e2) ktn_ord0 ?_; (case e1 => k_asm); (case e2 => first | k_asm | exact News.sub (by k_asm) (by k_extra "X my sub")))
        have hq' := List.mem_of_getElem? hq
        simp only [Wish.within, Value.bool.injEq]
        symm
        rw [List.all_eq_false]
        exact ⟨q, hq', by simp_all⟩
    · intro tl u h tk hp ho F1 N1
      k_steps
      (refine' hret _ [] _ _ ?e1 (ktn_tl0 ?e2) ktn_ord0 ?_; (case e1 => k_asm); (case e2 => first | k_asm | exact News.sub (by k_asm) (by k_extra "X my sub")))
      rw [hA.length, List.take_length] at hp
      simp only [Wish.within, Value.bool.injEq]
      exact hp.symm
  · (refine' hret _ _ _ _ ?e1 ?e2 ?e3 ?_; (case e1 => k_asm); (case e2 => first | exact ktn_tl0 (by k_asm) | k_asm | exact ktn_tl1 (by k_asm) | exact ktn_tl2 (by k_asm) | exact tl2 (by k_asm) | exact tlb2 (by k_asm) | exact tl3 (by k_asm) | exact tlb3 (by k_asm)); (case e3 => k_extra "X my ord"))
    have hc : x ≤ (d.ends 3).1 := by assumption
    simp only [Wish.within, hc, decide_true, Bool.true_and]
  · (refine' hret _ _ _ _ ?e1 ?e2 ?e3 ?_; (case e1 => k_asm); (case e2 => first | exact ktn_tl0 (by k_asm) | k_asm | exact ktn_tl1 (by k_asm) | exact ktn_tl2 (by k_asm) | exact tl2 (by k_asm) | exact tlb2 (by k_asm) | exact tl3 (by k_asm) | exact tlb3 (by k_asm)); (case e3 => k_extra "X my ord"))
    have hc : ¬ x ≤ (d.ends 3).1 := by assumption
    simp only [Wish.within, hc, decide_false, Bool.false_and]

theorem off_F5 : True := by
  k_with "off F5" => skip
  trivial
end
section
theorem anew_F6 : True := by
  w_top off
  trivial
theorem kw9 : True := by
  k_with "X exec For Name Call cons nil" => ((fail_if_success k_extra "off F6"); ((k_here; (rename Fr _ _ _ _ => lF'z49); (with_unfolding_all refine' for_led lF'z49 ?_))))
  k_with "X call ref" => ((fail_if_success k_extra "off F6"); ((k_here; (with_reducible show wpAny _ _ (call (Value.ref 135) _) _ _ _); k_dflt (refine' Says.use (wish_masks_says3 ?h0z50 ?h1z50) ?kBz50 ?kFz50 ?kXz50 ?kNz50 ?kTz50 ?kKz50 ?kDz50 ?kUz50 ?_; (case kBz50 => k_asm); (case kFz50 => k_asm); (case kXz50 => k_asm); (case kNz50 => k_asm); (case kTz50 => k_asm); (case kKz50 => first | exact rfl | assumption); (case kDz50 => ktr_room); (case kUz50 => ktr_units)); ((case h0z50 => exact WishIn.mono (by assumption) (by k_extra "X my sub")); (case h1z50 => assumption)); intro r9z50 tl9z50 h9z50 tk9z50 F9z50 N9z50 o9z50 p9z50; (try replace p9z50 := TPost.get p9z50); (try dsimp only [List.nil_append, List.cons_append] at N9z50); (try simp only [List.nil_append, List.cons_append, List.append_nil, List.append_assoc] at N9z50); (try dsimp only [List.nil_append, List.cons_append] at p9z50); (try simp only [List.nil_append, List.cons_append, List.append_nil, List.append_assoc] at p9z50); (revert p9z50; (first | with_reducible apply ListIn.imp | with_reducible apply IntsIn.imp); intro a9z50 n9z50 v9z50 m9z50 q9z50; clear r9z50); (try dsimp only); (try k_fold))))
  k_with "X call ref" => ((fail_if_success k_extra "off F6"); ((k_here; (with_reducible show wpAny _ _ (call (Value.ref 149) _) _ _ _); k_dflt (refine' Says.use (do_masks_meet_says ?h0z51 ?h1z51) ?kBz51 ?kFz51 ?kXz51 ?kNz51 ?kTz51 ?kKz51 ?kDz51 ?kUz51 ?_; (case kBz51 => k_asm); (case kFz51 => k_asm); (case kXz51 => k_asm); (case kNz51 => k_asm); (case kTz51 => k_asm); (case kKz51 => first | exact rfl | assumption); (case kDz51 => ktr_room); (case kUz51 => ktr_units)); ((case h0z51 => exact PairIn.mono (by assumption) (by k_extra "X my sub")); (case h1z51 => exact PairIn.mono (by assumption) (by k_extra "X my sub"))); intro r9z51 tl9z51 h9z51 tk9z51 F9z51 N9z51 o9z51 p9z51; (try replace p9z51 := TPost.get p9z51); (try dsimp only [List.nil_append, List.cons_append] at N9z51); (try simp only [List.nil_append, List.cons_append, List.append_nil, List.append_assoc] at N9z51); (try dsimp only [List.nil_append, List.cons_append] at p9z51); (try simp only [List.nil_append, List.cons_append, List.append_nil, List.append_assoc] at p9z51); (subst p9z51); (try dsimp only); (try k_fold))))
  trivial
theorem do_wishes_meet_says3 {w : World} {news : Led} {v v' : Value} {d d' : Wish} {tt : Tok} (ha : WishIn news v d) (hb : WishIn news v' d') (ok : d.ok 3) (ok' : d'.ok 3) :
   Says w 170 3 24 news [v, v', .int 3 tt] (fun _ r => r = .bool (d.meets 3 d')) := by
  have hha := ha
  have hhb := hb
  rcases ha with @⟨a, n, x, y, _, _, _, ha⟩ | @⟨a, n, x, y, _, _, _, ha⟩ <;> rcases hb with @⟨b, n', x', y', _, _, _, hb⟩ | @⟨b, n', x', y', _, _, _, hb⟩
  all_goals (unfold Says; intro mean mg mb dp un gd cn cs a ccd cl outer A₀ base h₀ L m s Q E B F X N T hk hd hu hret; refine wpAny_call ?_; k_dflt ktr_enter)
  all_goals k_steps
  · rename All2 _ _ _ => hA
    refine' ForSrc.search [Str.ofString "row", Str.ofString "late"] (fun i => (((Wish.mask x y).masks 3).take i).all (fun p => ((Wish.mask x' y').masks 3).all fun q => !masksMeet p q) = true) ?hm rfl (by assumption) (by assumption) rfl ?_ ?_
    case hm => k_mem
    · intro i v tl u h tk I oI hv hp ho off F1 N1
      obtain ⟨p, hq, hR⟩ := hA.get hv
      clear hA
      k_steps
      rename All2 _ _ _ => hA
      refine' ForSrc.search [Str.ofString "late"] (fun i => (((Wish.mask x' y').masks 3).take i).all (fun q => !masksMeet p q) = true) ?hm rfl (by assumption) (by assumption) rfl ?_ ?_
      case hm => k_mem
      · intro i' v' tl' u' h' tk' I' oI' hv' hp' ho' off' F1' N1'
        obtain ⟨q, hq', hR'⟩ := hA.get hv'
        k_steps
        · (refine' hret _ [] _ _ ?e1 (ktn_tl0 ?e2) ktn_ord0 ?_; (case e1 => k_asm); (case e2 => first | k_asm | exact News.sub (by k_asm) (by k_extra "X my sub")))
          have e1 := List.mem_of_getElem? hq
          have e2 := List.mem_of_getElem? hq'
          have e3 : masksMeet p q = true := by assumption
          simp only [Wish.meets, Value.bool.injEq]
          symm
          rw [List.any_eq_true]
          exact ⟨p, e1, List.any_eq_true.mpr ⟨q, e2, e3⟩⟩
        · (refine' ForPost.search (tl' := []) ?f1 ?f2 ?f3 ?f4 ?f5 ktn_ord0 ?f6 ?_; (case f2 => k_asm); (case f3 => k_asm); (case f1 => assumption); (case f4 => k_extra "X my sub"); (case f5 => assumption); (case f6 => (intro z hz; (simp only [List.contains_cons, List.contains_nil, Bool.or_false, Bool.or_eq_false_iff, beq_eq_false_iff_ne, ne_eq] at hz); (simp [hz]; done))))
          have e3 : masksMeet p q = false := by first | assumption | simpa using (by assumption : ¬ masksMeet p q = true)
          rw [List.take_add_one, hq', List.all_append, hp']
          simp [e3]
      · intro tl' u' h' tk' hp' ho' F1' N1'
        k_steps
        rw [hA.length, List.take_length] at hp'
        (refine' ForPost.search (tl' := []) ?f1 ?f2 ?f3 ?f4 ?f5 ktn_ord0 ?f6 ?_; (case f2 => k_asm); (case f3 => k_asm); (case f1 => assumption); (case f4 => k_extra "X my sub"); (case f5 => assumption); (case f6 => (intro z hz; (simp only [List.contains_cons, List.contains_nil, Bool.or_false, Bool.or_eq_false_iff, beq_eq_false_iff_ne, ne_eq] at hz); (simp [hz]; done))))
        rw [List.take_add_one, hq, List.all_append, hp]
        simp [hp']
    · intro tl u h tk hp ho F1 N1
      k_steps
      (refine' hret _ [] _ _ ?e1 (ktn_tl0 ?e2) ktn_ord0 ?_; (case e1 => k_asm); (case e2 => first | k_asm | exact News.sub (by k_asm) (by k_extra "X my sub")))
      rw [hA.length, List.take_length] at hp
      simp only [Wish.meets, Value.bool.injEq]
      symm
      rw [List.any_eq_false]
      intro p hp1
      have e1 := List.all_eq_true.mp hp p hp1
      rw [Bool.not_eq_true, List.any_eq_false]
      intro q hq1
      have e2 := List.all_eq_true.mp e1 q hq1
      simpa using e2
  · rename All2 _ _ _ => hA
    refine' ForSrc.search [Str.ofString "row", Str.ofString "late"] (fun i => (((Wish.mask x y).masks 3).take i).all (fun p => ((Wish.range x' y').masks 3).all fun q => !masksMeet p q) = true) ?hm rfl (by assumption) (by assumption) rfl ?_ ?_
    case hm => k_mem
    · intro i v tl u h tk I oI hv hp ho off F1 N1
      obtain ⟨p, hq, hR⟩ := hA.get hv
      clear hA
      k_steps
      rename All2 _ _ _ => hA
      refine' ForSrc.search [Str.ofString "late"] (fun i => (((Wish.range x' y').masks 3).take i).all (fun q => !masksMeet p q) = true) ?hm rfl (by assumption) (by assumption) rfl ?_ ?_
      case hm => k_mem
      · intro i' v' tl' u' h' tk' I' oI' hv' hp' ho' off' F1' N1'
        obtain ⟨q, hq', hR'⟩ := hA.get hv'
        k_steps
        · (refine' hret _ [] _ _ ?e1 (ktn_tl0 ?e2) ktn_ord0 ?_; (case e1 => k_asm); (case e2 => first | k_asm | exact News.sub (by k_asm) (by k_extra "X my sub")))
          have e1 := List.mem_of_getElem? hq
          have e2 := List.mem_of_getElem? hq'
          have e3 : masksMeet p q = true := by assumption
          simp only [Wish.meets, Value.bool.injEq]
          symm
          rw [List.any_eq_true]
          exact ⟨p, e1, List.any_eq_true.mpr ⟨q, e2, e3⟩⟩
        · (refine' ForPost.search (tl' := []) ?f1 ?f2 ?f3 ?f4 ?f5 ktn_ord0 ?f6 ?_; (case f2 => k_asm); (case f3 => k_asm); (case f1 => assumption); (case f4 => k_extra "X my sub"); (case f5 => assumption); (case f6 => (intro z hz; (simp only [List.contains_cons, List.contains_nil, Bool.or_false, Bool.or_eq_false_iff, beq_eq_false_iff_ne, ne_eq] at hz); (simp [hz]; done))))
          have e3 : masksMeet p q = false := by first | assumption | simpa using (by assumption : ¬ masksMeet p q = true)
          rw [List.take_add_one, hq', List.all_append, hp']
          simp [e3]
      · intro tl' u' h' tk' hp' ho' F1' N1'
        k_steps
        rw [hA.length, List.take_length] at hp'
        (refine' ForPost.search (tl' := []) ?f1 ?f2 ?f3 ?f4 ?f5 ktn_ord0 ?f6 ?_; (case f2 => k_asm); (case f3 => k_asm); (case f1 => assumption); (case f4 => k_extra "X my sub"); (case f5 => assumption); (case f6 => (intro z hz; (simp only [List.contains_cons, List.contains_nil, Bool.or_false, Bool.or_eq_false_iff, beq_eq_false_iff_ne, ne_eq] at hz); (simp [hz]; done))))
        rw [List.take_add_one, hq, List.all_append, hp]
        simp [hp']
    · intro tl u h tk hp ho F1 N1
      k_steps
      (refine' hret _ [] _ _ ?e1 (ktn_tl0 ?e2) ktn_ord0 ?_; (case e1 => k_asm); (case e2 => first | k_asm | exact News.sub (by k_asm) (by k_extra "X my sub")))
      rw [hA.length, List.take_length] at hp
      simp only [Wish.meets, Value.bool.injEq]
      symm
      rw [List.any_eq_false]
      intro p hp1
      have e1 := List.all_eq_true.mp hp p hp1
      rw [Bool.not_eq_true, List.any_eq_false]
      intro q hq1
      have e2 := List.all_eq_true.mp e1 q hq1
      simpa using e2
  · rename All2 _ _ _ => hA
    refine' ForSrc.search [Str.ofString "row", Str.ofString "late"] (fun i => (((Wish.range x y).masks 3).take i).all (fun p => ((Wish.mask x' y').masks 3).all fun q => !masksMeet p q) = true) ?hm rfl (by assumption) (by assumption) rfl ?_ ?_
    case hm => k_mem
    · intro i v tl u h tk I oI hv hp ho off F1 N1
      obtain ⟨p, hq, hR⟩ := hA.get hv
      clear hA
      k_steps
      rename All2 _ _ _ => hA
      refine' ForSrc.search [Str.ofString "late"] (fun i => (((Wish.mask x' y').masks 3).take i).all (fun q => !masksMeet p q) = true) ?hm rfl (by assumption) (by assumption) rfl ?_ ?_
      case hm => k_mem
      · intro i' v' tl' u' h' tk' I' oI' hv' hp' ho' off' F1' N1'
        obtain ⟨q, hq', hR'⟩ := hA.get hv'
        k_steps
        · (refine' hret _ [] _ _ ?e1 (ktn_tl0 ?e2) ktn_ord0 ?_; (case e1 => k_asm); (case e2 => first | k_asm | exact News.sub (by k_asm) (by k_extra "X my sub")))
          have e1 := List.mem_of_getElem? hq
          have e2 := List.mem_of_getElem? hq'
          have e3 : masksMeet p q = true := by assumption
          simp only [Wish.meets, Value.bool.injEq]
          symm
          rw [List.any_eq_true]
          exact ⟨p, e1, List.any_eq_true.mpr ⟨q, e2, e3⟩⟩
        · (refine' ForPost.search (tl' := []) ?f1 ?f2 ?f3 ?f4 ?f5 ktn_ord0 ?f6 ?_; (case f2 => k_asm); (case f3 => k_asm); (case f1 => assumption); (case f4 => k_extra "X my sub"); (case f5 => assumption); (case f6 => (intro z hz; (simp only [List.contains_cons, List.contains_nil, Bool.or_false, Bool.or_eq_false_iff, beq_eq_false_iff_ne, ne_eq] at hz); (simp [hz]; done))))
          have e3 : masksMeet p q = false := by first | assumption | simpa using (by assumption : ¬ masksMeet p q = true)
          rw [List.take_add_one, hq', List.all_append, hp']
          simp [e3]
      · intro tl' u' h' tk' hp' ho' F1' N1'
        k_steps
        rw [hA.length, List.take_length] at hp'
        (refine' ForPost.search (tl' := []) ?f1 ?f2 ?f3 ?f4 ?f5 ktn_ord0 ?f6 ?_; (case f2 => k_asm); (case f3 => k_asm); (case f1 => assumption); (case f4 => k_extra "X my sub"); (case f5 => assumption); (case f6 => (intro z hz; (simp only [List.contains_cons, List.contains_nil, Bool.or_false, Bool.or_eq_false_iff, beq_eq_false_iff_ne, ne_eq] at hz); (simp [hz]; done))))
        rw [List.take_add_one, hq, List.all_append, hp]
        simp [hp']
    · intro tl u h tk hp ho F1 N1
      k_steps
      (refine' hret _ [] _ _ ?e1 (ktn_tl0 ?e2) ktn_ord0 ?_; (case e1 => k_asm); (case e2 => first | k_asm | exact News.sub (by k_asm) (by k_extra "X my sub")))
      rw [hA.length, List.take_length] at hp
      simp only [Wish.meets, Value.bool.injEq]
      symm
      rw [List.any_eq_false]
      intro p hp1
      have e1 := List.all_eq_true.mp hp p hp1
      rw [Bool.not_eq_true, List.any_eq_false]
      intro q hq1
      have e2 := List.all_eq_true.mp e1 q hq1
      simpa using e2
  · (refine' hret _ [] _ _ ?e1 (ktn_tl0 ?e2) ktn_ord0 ?_; (case e1 => k_asm); (case e2 => first | k_asm | exact News.sub (by k_asm) (by k_extra "X my sub")))
    have hc : x ≤ y' := by assumption
    simp only [Wish.meets, hc, decide_true, Bool.true_and]
  · (refine' hret _ [] _ _ ?e1 (ktn_tl0 ?e2) ktn_ord0 ?_; (case e1 => k_asm); (case e2 => first | k_asm | exact News.sub (by k_asm) (by k_extra "X my sub")))
    have hc : ¬ x ≤ y' := by assumption
    simp only [Wish.meets, hc, decide_false, Bool.false_and]

theorem off_F6 : True := by
  k_with "off F6" => skip
  trivial
end
section
theorem anew_F7 : True := by
  w_top off
  trivial
theorem fewest_says {w : World} (j : Nat) : ∀ {news : Led} {lo hi b sz : Int} {t u v x : Tok}, sz = 2 ^ j → -1000 ≤ lo → lo ≤ 1000 → -1000 ≤ hi → hi ≤ 1000 → -1000 ≤ b → b + sz ≤ 1000 →
   Says w 215 (j + 1) (8 * (j + 1)) news [.int lo t, .int hi u, .int b v, .int sz x] (fun l r => ∃ t, r = .int (fewest lo hi j b) t) := by
  induction j with
  | zero =>
    intro news lo hi b sz t u v x hs h1 h2 h3 h4 h5 h6
    subst hs
    (unfold Says; intro mean mg mb dp un gd cn cs a ccd cl outer A₀ base h₀ L m s Q E B F X N T hk hd hu hret; refine wpAny_call ?_; k_dflt ktr_enter)
    k_steps
    · (refine' hret _ [] _ _ ?e1 (ktn_tl0 ?e2) ktn_ord0 ?_; (case e1 => k_asm); (case e2 => first | k_asm | exact News.sub (by k_asm) (by k_extra "X my sub")))
      exact ⟨_, by simp only [fewest]; rw [if_pos (by first | exact .inl (by assumption) | exact .inr (by omega))]⟩
    · (refine' hret _ [] _ _ ?e1 (ktn_tl0 ?e2) ktn_ord0 ?_; (case e1 => k_asm); (case e2 => first | k_asm | exact News.sub (by k_asm) (by k_extra "X my sub")))
      exact ⟨_, by simp only [fewest]; rw [if_pos (by first | exact .inl (by assumption) | exact .inr (by omega))]⟩
    · (refine' hret _ [] _ _ ?e1 (ktn_tl0 ?e2) ktn_ord0 ?_; (case e1 => k_asm); (case e2 => first | k_asm | exact News.sub (by k_asm) (by k_extra "X my sub")))
      exact ⟨_, by simp only [fewest]; rw [if_neg (by omega)]⟩
  | succ j ih =>
    intro news lo hi b sz t u v x hs h1 h2 h3 h4 h5 h6
    have hS : ∃ S : Int, S = 2 ^ j ∧ 1 ≤ S := ⟨_, rfl, Int.pow_pos (by decide)⟩
    obtain ⟨S, eS, pS⟩ := hS
    have hs2 : sz = 2 * S := by rw [hs, eS, Int.pow_succ, Int.mul_comm]
    subst hs2
    (unfold Says; intro mean mg mb dp un gd cn cs a ccd cl outer A₀ base h₀ L m s Q E B F X N T hk hd hu hret; refine wpAny_call ?_; k_dflt ktr_enter)
    k_steps
    · (refine' hret _ [] _ _ ?e1 (ktn_tl0 ?e2) ktn_ord0 ?_; (case e1 => k_asm); (case e2 => first | k_asm | exact News.sub (by k_asm) (by k_extra "X my sub")))
      exact ⟨_, by simp only [fewest]; rw [if_pos (by rw [Int.pow_succ, ← eS]; first | exact .inl (by assumption) | exact .inr (by omega))]⟩
    · (refine' hret _ [] _ _ ?e1 (ktn_tl0 ?e2) ktn_ord0 ?_; (case e1 => k_asm); (case e2 => first | k_asm | exact News.sub (by k_asm) (by k_extra "X my sub")))
      exact ⟨_, by simp only [fewest]; rw [if_pos (by rw [Int.pow_succ, ← eS]; first | exact .inl (by assumption) | exact .inr (by omega))]⟩
    · (refine' hret _ [] _ _ ?e1 (ktn_tl0 ?e2) ktn_ord0 ?_; (case e1 => k_asm); (case e2 => first | k_asm | exact News.sub (by k_asm) (by k_extra "X my sub")))
      exact ⟨_, by simp only [fewest]; rw [if_neg (by rw [Int.pow_succ, ← eS]; omega), if_pos (by rw [Int.pow_succ, ← eS]; omega)]⟩
    all_goals
      have hf : (2 * S).fdiv 2 = S := by rw [Int.fdiv_eq_ediv_of_nonneg _ (by decide)]; omega
      rw [hf]
      (k_here; k_dflt (refine' Says.use (ih eS (by omega) (by omega) (by omega) (by omega) (by omega) (by omega)) ?kB ?kF ?kX ?kN ?kT ?kK ?kD ?kU ?_; (case kB => k_asm); (case kF => k_asm); (case kX => k_asm); (case kN => k_asm); (case kT => k_asm); (case kK => first | exact rfl | assumption); (case kD => ktr_room); (case kU => ktr_units)); skip; intro r9 tl9 h9 tk9 F9 N9 o9 p9; (try replace p9 := TPost.get p9); (try dsimp only [List.nil_append, List.cons_append] at N9); (try simp only [List.nil_append, List.cons_append, List.append_nil, List.append_assoc] at N9); (try dsimp only [List.nil_append, List.cons_append] at p9); (try simp only [List.nil_append, List.cons_append, List.append_nil, List.append_assoc] at p9); (obtain ⟨t9, e9⟩ := p9; subst e9); (try dsimp only); (try k_fold))
      k_steps
      rw [hf]
      (k_here; k_dflt (refine' Says.use (ih eS (by omega) (by omega) (by omega) (by omega) (by omega) (by omega)) ?kB ?kF ?kX ?kN ?kT ?kK ?kD ?kU ?_; (case kB => k_asm); (case kF => k_asm); (case kX => k_asm); (case kN => k_asm); (case kT => k_asm); (case kK => first | exact rfl | assumption); (case kD => ktr_room); (case kU => ktr_units)); skip; intro r9 tl9 h9 tk9 F9 N9 o9 p9; (try replace p9 := TPost.get p9); (try dsimp only [List.nil_append, List.cons_append] at N9); (try simp only [List.nil_append, List.cons_append, List.append_nil, List.append_assoc] at N9); (try dsimp only [List.nil_append, List.cons_append] at p9); (try simp only [List.nil_append, List.cons_append, List.append_nil, List.append_assoc] at p9); (obtain ⟨t9, e9⟩ := p9; subst e9); (try dsimp only); (try k_fold))
      k_steps
      (refine' hret _ _ _ _ ?e1 ?e2 ?e3 ?_; (case e1 => k_asm); (case e2 => first | exact ktn_tl0 (by k_asm) | k_asm | exact ktn_tl1 (by k_asm) | exact ktn_tl2 (by k_asm) | exact tl2 (by k_asm) | exact tlb2 (by k_asm) | exact tl3 (by k_asm) | exact tlb3 (by k_asm)); (case e3 => k_extra "X my ord"))
      exact ⟨_, by rw [eS]; simp only [fewest]; rw [if_neg (by rw [Int.pow_succ, ← eS]; omega), if_neg (by rw [Int.pow_succ, ← eS]; omega)]⟩

theorem off_F7 : True := by
  k_with "off F7" => skip
  trivial
end
section
theorem anew_F8 : True := by
  w_top off
  trivial
theorem numbers_says {w : World} {news : Led} {v : Value} {d : Wish} {bits : Nat} {t : Tok} (hb : bits ≤ 8) (ha : WishIn news v d) :
   Says w 208 1 8 news [v, .int bits t] (fun l r => IntsIn l r (d.nums bits) ∧ Fresh news r) := by
  rcases ha with @⟨a, n, x, y, _, _, _, ha⟩ | @⟨a, n, x, y, _, _, _, ha⟩
  all_goals (unfold Says; intro mean mg mb dp un gd cn cs a ccd cl outer A₀ base h₀ L m s Q E B F X N T hk hd hu hret; refine wpAny_call ?_; k_dflt (refine' code_defC ?k1 ?k2 ?k3 ?k4 ?k5 ?kA ?kF ?kK ?k6 ?k7 ?k8 ?k9 ?kB ?kD ?_ ?c2 ?c3 ?c4; (case kA => exact rfl); (case kF => exact rfl); (case kK => assumption); (case k1 => k_asm); (case k2 => k_asm); (case k3 => k_asm); (case k4 => k_asm); (case k5 => k_asm); (case k6 => k_is); (case k7 => k_is); (case k8 => ktr_room); (case k9 => exact BindsTo.of_eq rfl); (case kB => exact rfl); (case kD => decide +kernel); (case c2 => exact rfl); (case c3 => exact rfl); (case c4 => exact rfl); k_whole; intro g' L' h' tk' cells' FG' F' N' Y' B' X' T' l1; (have l1a := lt_plus 1 l1); (have l1b := lt_plus 2 l1); (have l1c := lt_plus 3 l1); (have l1d := lt_plus 4 l1); k_cells Y'; (try simp only [List.cons_append, List.nil_append] at N'); (try dsimp only); (try k_lift B'); (try k_fold)))
  all_goals k_steps
  · have hp8 := pow_le256 hb
    have hpz : ((2 : Int) ^ ((bits : Nat) : Int).toNat) = ((2 ^ bits : Nat) : Int) := by simp
    refine CSrc.range (n := 2 ^ bits) (fun i ys _ => ys.length ≤ i ∧ IntsAre ys ((upto i).filter (Wish.has (Wish.mask x y)))) (by assumption) (small_one (by decide) (by decide) ?_ ?_) ?_ rfl (by assumption) (by assumption) (by decide) rfl (by intro g h; cases h) ⟨Nat.le_refl _, .nil⟩ ?_ ?_
    · rw [hpz]; generalize 2 ^ bits = z at *; omega
    · rw [hpz]; generalize 2 ^ bits = z at *; omega
    · rw [rangeSize_nat, hpz]; generalize 2 ^ bits = z at *; omega
    · intro i tv ys tl h tk I oI oC C D mC hi hp ho b3 off tr F1 hC1 N1
      refine CTurn.filter rfl rfl tr off F1 hC1 N1 ?_
      intro h2 oC2 mC2 tk2 E2 F2 hC2 hx N2
      k_steps
      · (refine' CEndY.mk (tl' := []) ?c1 ?c2 ?c3 ?c4 ?c5 ?c6 ktn_ord0 ?c7 ?_; (case c1 => k_asm); (case c2 => assumption); (case c3 => k_asm); (case c5 => assumption); (case c6 => assumption); (case c4 => k_extra "X my sub"))
        case c7 => rw [sizeLine_eq]; omega
        · have e : Builtin.bitAnd (0 + (i : Int)) y = x := by assumption
          rw [Int.zero_add] at e
          refine ⟨by simp; omega, ?_⟩
          rw [upto_succ, List.filter_append, Int.zero_add]
          simp only [List.filter_cons, Wish.has, e, beq_self_eq_true, if_true, List.filter_nil]
          exact IntsAre_snoc hp.2
      · (refine' CEnd.mk (tl' := []) ?c1 ?c2 ?c3 ?c4 ?c5 ?c6 ktn_ord0 ?_; (case c1 => k_asm); (case c2 => assumption); (case c3 => k_asm); (case c5 => assumption); (case c6 => assumption); (case c4 => k_extra "X my sub"))
        have e : Builtin.bitAnd (0 + (i : Int)) y ≠ x := by assumption
        rw [Int.zero_add] at e
        refine ⟨by omega, ?_⟩
        rw [upto_succ, List.filter_append]
        simp only [List.filter_cons, Wish.has, beq_eq_false_iff_ne.mpr e, List.filter_nil, Bool.false_eq_true, if_false, List.append_nil]
        exact hp.2
    · intro D ys tl h tk hp ho hD h2 F2 N2
      k_steps
      (refine' hret _ [(D, lst ys)] _ _ ?e1 ?e2 ?e3 ?_; (case e1 => k_asm); (case e2 => exact News.sub (by k_asm) (by k_extra "X my sub")); (case e3 => k_extra "X my ord"))
      exact ⟨⟨_, _, _, rfl, by k_mem, hp.2⟩, by first | exact Fresh.mk hD | exact Fresh.mk (fun q hq => hD q (List.mem_cons_of_mem _ hq)) | exact Fresh.mk (fun q hq => hD q (List.mem_append_left _ hq))⟩
  · have hp8 := pow_le256 hb
    have hpz : ((2 : Int) ^ ((bits : Nat) : Int).toNat) = ((2 ^ bits : Nat) : Int) := by simp
    refine CSrc.range (n := 2 ^ bits) (fun i ys _ => ys.length ≤ i ∧ IntsAre ys ((upto i).filter (Wish.has (Wish.range x y)))) (by assumption) (small_one (by decide) (by decide) ?_ ?_) ?_ rfl (by assumption) (by assumption) (by decide) rfl (by intro g h; cases h) ⟨Nat.le_refl _, .nil⟩ ?_ ?_
    · rw [hpz]; generalize 2 ^ bits = z at *; omega
    · rw [hpz]; generalize 2 ^ bits = z at *; omega
    · rw [rangeSize_nat, hpz]; generalize 2 ^ bits = z at *; omega
    · intro i tv ys tl h tk I oI oC C D mC hi hp ho b3 off tr F1 hC1 N1
      refine CTurn.filter rfl rfl tr off F1 hC1 N1 ?_
      intro h2 oC2 mC2 tk2 E2 F2 hC2 hx N2
      k_steps
      · (refine' CEndY.mk (tl' := []) ?c1 ?c2 ?c3 ?c4 ?c5 ?c6 ktn_ord0 ?c7 ?_; (case c1 => k_asm); (case c2 => assumption); (case c3 => k_asm); (case c5 => assumption); (case c6 => assumption); (case c4 => k_extra "X my sub"))
        case c7 => rw [sizeLine_eq]; omega
        · have e1 : x ≤ 0 + (i : Int) := by assumption
          have e2 : 0 + (i : Int) ≤ y := by assumption
          rw [Int.zero_add] at e1 e2
          refine ⟨by simp; omega, ?_⟩
          rw [upto_succ, List.filter_append, Int.zero_add]
          simp only [List.filter_cons, Wish.has, e1, e2, decide_true, Bool.and_self, if_true, List.filter_nil]
          exact IntsAre_snoc hp.2
      all_goals
        (refine' CEnd.mk (tl' := []) ?c1 ?c2 ?c3 ?c4 ?c5 ?c6 ktn_ord0 ?_; (case c1 => k_asm); (case c2 => assumption); (case c3 => k_asm); (case c5 => assumption); (case c6 => assumption); (case c4 => k_extra "X my sub"))
        have e : ¬ (x ≤ (i : Int) ∧ (i : Int) ≤ y) := by omega
        refine ⟨by omega, ?_⟩
        rw [upto_succ, List.filter_append]
        have e3 : Wish.has (Wish.range x y) (i : Int) = false := by
          simp only [Wish.has]
          rw [Bool.and_eq_false_iff]
          simp only [decide_eq_false_iff_not]
          omega
        simp only [List.filter_cons, e3, List.filter_nil, Bool.false_eq_true, if_false, List.append_nil]
        exact hp.2
    · intro D ys tl h tk hp ho hD h2 F2 N2
      k_steps
      (refine' hret _ [(D, lst ys)] _ _ ?e1 ?e2 ?e3 ?_; (case e1 => k_asm); (case e2 => exact News.sub (by k_asm) (by k_extra "X my sub")); (case e3 => k_extra "X my ord"))
      exact ⟨⟨_, _, _, rfl, by k_mem, hp.2⟩, by first | exact Fresh.mk hD | exact Fresh.mk (fun q hq => hD q (List.mem_cons_of_mem _ hq)) | exact Fresh.mk (fun q hq => hD q (List.mem_append_left _ hq))⟩

theorem off_F8 : True := by
  k_with "off F8" => skip
  trivial
end
section
theorem anew_F10 : True := by
  w_top off
  trivial
theorem take_says {w : World} {news : Led} {a : Addr} {o : Obj} {top : Int} {t : Tok} (ho : SrcOk o) (h0 : 1 ≤ top) (h1 : top ≤ 256) :
   SaysM w 203 1 8 a o news [.ref a, .int top t] (fun o' _ r => SrcOk o' ∧ ∃ d t, r = .int d t ∧ 0 ≤ d ∧ d < top) := by
  obtain ⟨x, y, tx, ty, n, rfl, hx, hy, hy2⟩ := ho
  (unfold SaysM; intro mean mg mb dp un gd cn cs ca ccd cl outer A₀ base h₀ L m s Q E B F X N T hk hd hu hne hret; refine wpAny_call ?_; k_dflt ktr_enter)
  k_steps
  · (refine' hret _ _ [] _ _ ?e1 ?e2 ktn_ord0 ?_; (case e1 => k_asm); (case e2 => exact News.sub (by k_asm) (by k_extra "X my sub")))
    refine ⟨⟨_, _, _, _, _, rfl, ?_, hy, hy2⟩, _, _, rfl, Int.fmod_nonneg_of_pos _ (by omega), Int.fmod_lt_of_pos _ (by omega)⟩
    show 0 ≤ x.fdiv top
    rw [Int.fdiv_eq_ediv_of_nonneg _ (by omega)]
    exact Int.ediv_nonneg hx (by omega)
  · simp only [Int.reduceToNat, List.getD_cons_succ, List.getD_cons_zero] at *
    have hz : ∃ z, z = (y * 39373 + 7).fmod 2147483647 ∧ 0 ≤ z ∧ z < 2147483647 :=
      ⟨_, rfl, Int.fmod_nonneg_of_pos _ (by decide), Int.fmod_lt_of_pos _ (by decide)⟩
    obtain ⟨z, ez, z0, z1⟩ := hz
    rw [← ez] at *
    k_steps
    (refine' hret _ _ [] _ _ ?e1 ?e2 ktn_ord0 ?_; (case e1 => k_asm); (case e2 => exact News.sub (by k_asm) (by k_extra "X my sub")))
    exact ⟨⟨_, _, _, _, _, rfl, hx, Int.fmod_nonneg_of_pos _ (by decide), Int.fmod_lt_of_pos _ (by decide)⟩, _, _, rfl, Int.fmod_nonneg_of_pos _ (by omega), Int.fmod_lt_of_pos _ (by omega)⟩

theorem off_F10 : True := by
  k_with "off F10" => skip
  trivial
end
section
theorem anew_F11 : True := by
  w_top off
  trivial
theorem kw10 : True := by
  k_with "X call ref" => ((fail_if_success k_extra "off F11"); ((k_here; (with_reducible show wpAny _ _ (call (Value.ref 203) _) _ _ _); k_dflt (refine' SaysM.use (take_says ?hoz52 ?h0z52 ?h1z52) ?kBz52 ?kFz52 ?kXz52 ?kNz52 ?kSz52 ?kTz52 ?kKz52 ?kDz52 ?kUz52 ?kEz52 ?_; (case kBz52 => k_asm); (case kFz52 => k_asm); (case kXz52 => k_asm); (case kNz52 => k_asm); (case kSz52 => k_extra "X my split"); (case kTz52 => k_asm); (case kKz52 => first | exact rfl | assumption); (case kDz52 => ktr_room); (case kUz52 => ktr_units); (case kEz52 => k_extra "X my ne")); ((case hoz52 => assumption); (case h0z52 => first | omega | decide | (simp only [Int.reduceToNat, Int.reducePow]; omega)); (case h1z52 => first | omega | decide | (simp only [Int.reduceToNat, Int.reducePow]; omega))); intro r9z52 o9z52 tl9z52 h9z52 tk9z52 F9z52 N9z52 l9z52 p9z52; (try replace p9z52 := TPost.get p9z52); (try dsimp only [List.nil_append, List.cons_append] at N9z52); (try simp only [List.nil_append, List.cons_append, List.append_nil, List.append_assoc] at N9z52); (try dsimp only [List.nil_append, List.cons_append] at p9z52); (try simp only [List.nil_append, List.cons_append, List.append_nil, List.append_assoc] at p9z52); ((try simp only [Int.reduceToNat, Int.reducePow] at p9z52); revert p9z52; with_reducible apply take_imp; intro hSo9z52 d9z52 t9z52 hl9z52 hu9z52; clear r9z52); (try dsimp only); (try k_fold))))
  trivial
theorem wish_says3 {w : World} {news : Led} {a : Addr} {o : Obj} {t : Tok} (ho : SrcOk o) :
   SaysMT w 227 2 16 a o news [.ref a, .int 3 t] (fun o' tl r => SrcOk o' ∧ ∃ d : Wish, d.ok 3 ∧ WishIn tl r d) := by
  (unfold SaysMT; intro mean mg mb dp un gd cn cs ca ccd cl outer A₀ base h₀ L m s Q E B F X N T hk hd hu hne hret; refine wpAny_call ?_; k_dflt ktr_enter)
  k_steps
  · (refine' hret _ _ [(_, tupO [.str (Str.ofString "mask") _, .int (Builtin.bitAnd _ _) _, .int _ _] 0)] _ _ ?e1 ?e2 ?e3 ?_; (case e1 => k_asm); (case e2 => exact News.sub (by k_asm) (by k_extra "X my sub")); (case e3 => k_extra "X my ord"))
    refine ⟨by assumption, .mask _ _, ?_, .mask (.head _)⟩
    exact ⟨by assumption, by assumption, and_and (by assumption) (by assumption)⟩
  · (refine' hret _ _ [(_, tupO [.str (Str.ofString "range") _, .int _ _, .int (_ + _) _] 0)] _ _ ?e1 ?e2 ?e3 ?_; (case e1 => k_asm); (case e2 => exact News.sub (by k_asm) (by k_extra "X my sub")); (case e3 => k_extra "X my ord"))
    refine ⟨by assumption, .range _ _, ?_, .range (.head _)⟩
    exact ⟨by assumption, by omega, by show _ < (8 : Int); omega⟩

theorem off_F11 : True := by
  k_with "off F11" => skip
  trivial
end
section
theorem anew_F12 : True := by
  w_top off
  trivial
theorem kw11 : True := by
  k_with "X call ref" => ((fail_if_success k_extra "off F12"); ((k_here; (with_reducible show wpAny _ _ (call (Value.ref 203) _) _ _ _); k_dflt (refine' SaysM.use (take_says ?hoz53 ?h0z53 ?h1z53) ?kBz53 ?kFz53 ?kXz53 ?kNz53 ?kSz53 ?kTz53 ?kKz53 ?kDz53 ?kUz53 ?kEz53 ?_; (case kBz53 => k_asm); (case kFz53 => k_asm); (case kXz53 => k_asm); (case kNz53 => k_asm); (case kSz53 => k_extra "X my split"); (case kTz53 => k_asm); (case kKz53 => first | exact rfl | assumption); (case kDz53 => ktr_room); (case kUz53 => ktr_units); (case kEz53 => k_extra "X my ne")); ((case hoz53 => assumption); (case h0z53 => first | omega | decide | (simp only [Int.reduceToNat, Int.reducePow]; omega)); (case h1z53 => first | omega | decide | (simp only [Int.reduceToNat, Int.reducePow]; omega))); intro r9z53 o9z53 tl9z53 h9z53 tk9z53 F9z53 N9z53 l9z53 p9z53; (try replace p9z53 := TPost.get p9z53); (try dsimp only [List.nil_append, List.cons_append] at N9z53); (try simp only [List.nil_append, List.cons_append, List.append_nil, List.append_assoc] at N9z53); (try dsimp only [List.nil_append, List.cons_append] at p9z53); (try simp only [List.nil_append, List.cons_append, List.append_nil, List.append_assoc] at p9z53); ((try simp only [Int.reduceToNat, Int.reducePow] at p9z53); revert p9z53; with_reducible apply take_imp; intro hSo9z53 d9z53 t9z53 hl9z53 hu9z53; clear r9z53); (try dsimp only); (try k_fold))))
  k_with "X call ref" => ((fail_if_success k_extra "off F12"); ((k_here; (with_reducible show wpAny _ _ (call (Value.ref 227) _) _ _ _); k_dflt (refine' SaysMT.use (wish_says3 ?hoz54) ?kBz54 ?kFz54 ?kXz54 ?kNz54 ?kSz54 ?kTz54 ?kKz54 ?kDz54 ?kUz54 ?kEz54 ?_; (case kBz54 => k_asm); (case kFz54 => k_asm); (case kXz54 => k_asm); (case kNz54 => k_asm); (case kSz54 => k_extra "X my split"); (case kTz54 => k_asm); (case kKz54 => first | exact rfl | assumption); (case kDz54 => ktr_room); (case kUz54 => ktr_units); (case kEz54 => k_extra "X my ne")); (case hoz54 => assumption); intro r9z54 o9z54 tl9z54 h9z54 tk9z54 F9z54 N9z54 l9z54 p9z54; (try replace p9z54 := TPost.get p9z54); (try dsimp only [List.nil_append, List.cons_append] at N9z54); (try simp only [List.nil_append, List.cons_append, List.append_nil, List.append_assoc] at N9z54); (try dsimp only [List.nil_append, List.cons_append] at p9z54); (try simp only [List.nil_append, List.cons_append, List.append_nil, List.append_assoc] at p9z54); (revert p9z54; with_reducible apply wish_imp; intro hSo9z54 dW9z54 hO9z54 c9z54 hW9z54; clear r9z54); (try dsimp only); (try k_fold))))
  trivial
theorem wishes_says {w : World} {news : Led} {a : Addr} {o : Obj} (ho : SrcOk o) :
   SaysMT w 251 3 24 a o news [.ref a] (fun o' tl r => SrcOk o' ∧ ∃ d : WD, WD.ok d ∧ DictIn w tl r d) := by
  (unfold SaysMT; intro mean mg mb dp un gd cn cs ca ccd cl outer A₀ base h₀ L m s Q E B F X N T hk hd hu hne hret; refine wpAny_call ?_; k_dflt ktr_enter)
  k_steps
  · refine' hret _ _ _ _ _ ?e1 (News.sub (by k_asm) shape1) ?e3 ?_
    case e1 => k_asm
    case e3 => k_extra "X my ord"
    rename WishIn _ _ _ => hW
    refine' ⟨by assumption, (some _, some (.range _ _)), ?ok, ⟨_, _, _, rfl, by k_mem, by assumption, by assumption, .both (hW.mono (by k_extra "X my sub")) (.range (by k_mem))⟩⟩
    case ok => exact WD.ok47 (by assumption) (by assumption) (by assumption) (by assumption) (by assumption)
  · refine' hret _ _ _ _ _ ?e1 (News.sub (by k_asm) shape2) ?e3 ?_
    case e1 => k_asm
    case e3 => k_extra "X my ord"
    rename WishIn _ _ _ => hW
    exact ⟨by assumption, (some _, none), WD.ok4 (by assumption), ⟨_, _, _, rfl, by k_mem, by assumption, by assumption, .four (hW.mono (by k_extra "X my sub"))⟩⟩
  · refine' hret _ _ _ _ _ ?e1 (News.sub (by k_asm) shape1) ?e3 ?_
    case e1 => k_asm
    case e3 => k_extra "X my ord"
    refine' ⟨by assumption, (none, some (.range _ _)), ?ok, ⟨_, _, _, rfl, by k_mem, by assumption, by assumption, .seven (.range (by k_mem))⟩⟩
    case ok => exact WD.ok7 (by assumption) (by assumption) (by assumption) (by assumption)
  · refine' hret _ _ _ _ _ ?e1 (News.sub (by k_asm) shape2) ?e3 ?_
    case e1 => k_asm
    case e3 => k_extra "X my ord"
    exact ⟨by assumption, (none, none), WD.ok0, ⟨_, _, _, rfl, by k_mem, by assumption, by assumption, .none⟩⟩

theorem off_F12 : True := by
  k_with "off F12" => skip
  trivial
end
section
theorem anew_F13 : True := by
  w_top off
  trivial
theorem numbersT {w : World} {news : Led} {v : Value} {d : Wish} {bits : Nat} {t : Tok} (hb : bits ≤ 8) (ha : WishIn news v d) :
   Says w 208 1 8 news [v, .int bits t] (TPost news [] fun l r => IntsIn l r (d.nums bits)) := (numbers_says hb ha).weaken fun _ _ h => IntsIn.tl h
theorem numbers3 {w : World} {news : Led} {v : Value} {d : Wish} {t : Tok} (ha : WishIn news v d) :
   Says w 208 1 8 news [v, .int 3 t] (TPost news [] fun l r => IntsIn l r (d.nums 3)) := numbersT (bits := 3) (by omega) ha
theorem numbers8 {w : World} {news : Led} {v : Value} {d : Wish} {t : Tok} (ha : WishIn news v d) :
   Says w 208 1 8 news [v, .int 8 t] (TPost news [] fun l r => IntsIn l r (d.nums 8)) := numbersT (bits := 8) (by omega) ha
theorem kw12 : True := by
  k_with "X call ref" => ((fail_if_success k_extra "off F13"); ((k_here; (with_reducible show wpAny _ _ (call (Value.ref 208) _) _ _ _); k_dflt (refine' Says.use (numbers3 ?h0z55) ?kBz55 ?kFz55 ?kXz55 ?kNz55 ?kTz55 ?kKz55 ?kDz55 ?kUz55 ?_; (case kBz55 => k_asm); (case kFz55 => k_asm); (case kXz55 => k_asm); (case kNz55 => k_asm); (case kTz55 => k_asm); (case kKz55 => first | exact rfl | assumption); (case kDz55 => ktr_room); (case kUz55 => ktr_units)); (case h0z55 => exact WishIn.mono (by assumption) (by k_extra "X my sub")); intro r9z55 tl9z55 h9z55 tk9z55 F9z55 N9z55 o9z55 p9z55; (try replace p9z55 := TPost.get p9z55); (try dsimp only [List.nil_append, List.cons_append] at N9z55); (try simp only [List.nil_append, List.cons_append, List.append_nil, List.append_assoc] at N9z55); (try dsimp only [List.nil_append, List.cons_append] at p9z55); (try simp only [List.nil_append, List.cons_append, List.append_nil, List.append_assoc] at p9z55); (revert p9z55; (first | with_reducible apply ListIn.imp | with_reducible apply IntsIn.imp); intro a9z55 n9z55 v9z55 m9z55 q9z55; clear r9z55); (try dsimp only); (try k_fold))))
  k_with "X call ref" => ((fail_if_success k_extra "off F13"); ((k_here; (with_reducible show wpAny _ _ (call (Value.ref 208) _) _ _ _); k_dflt (refine' Says.use (numbers8 ?h0z56) ?kBz56 ?kFz56 ?kXz56 ?kNz56 ?kTz56 ?kKz56 ?kDz56 ?kUz56 ?_; (case kBz56 => k_asm); (case kFz56 => k_asm); (case kXz56 => k_asm); (case kNz56 => k_asm); (case kTz56 => k_asm); (case kKz56 => first | exact rfl | assumption); (case kDz56 => ktr_room); (case kUz56 => ktr_units)); (case h0z56 => exact WishIn.mono (by assumption) (by k_extra "X my sub")); intro r9z56 tl9z56 h9z56 tk9z56 F9z56 N9z56 o9z56 p9z56; (try replace p9z56 := TPost.get p9z56); (try dsimp only [List.nil_append, List.cons_append] at N9z56); (try simp only [List.nil_append, List.cons_append, List.append_nil, List.append_assoc] at N9z56); (try dsimp only [List.nil_append, List.cons_append] at p9z56); (try simp only [List.nil_append, List.cons_append, List.append_nil, List.append_assoc] at p9z56); (revert p9z56; (first | with_reducible apply ListIn.imp | with_reducible apply IntsIn.imp); intro a9z56 n9z56 v9z56 m9z56 q9z56; clear r9z56); (try dsimp only); (try k_fold))))
  trivial
theorem lots_says {w : World} {news : Led} {v : Value} {d : WD} (ha : DictIn w news v d) :
   Says w 239 2 16 news [v] (TPost news [] fun l r => LotIn l r (d.lot4, d.lot7)) := by
  obtain ⟨a, o, kvs, rfl, hm, hsys, hd, hk⟩ := ha
  cases hk with
  | none =>
    (unfold Says; intro mean mg mb dp un gd cn cs a ccd cl outer A₀ base h₀ L m s Q E B F X N T hk hd hu hret; refine wpAny_call ?_; k_dflt ktr_enter)
    k_steps
    (refine' hret _ _ _ _ ?e1 ?e2 ?e3 ?_; (case e1 => k_asm); (case e2 => first | exact ktn_tl0 (by k_asm) | k_asm | exact ktn_tl1 (by k_asm) | exact ktn_tl2 (by k_asm) | exact tl2 (by k_asm) | exact tlb2 (by k_asm) | exact tl3 (by k_asm) | exact tlb3 (by k_asm)); (case e3 => k_extra "X my ord"))
    refine TPost.mk ?_
    exact ⟨_, _, _, _, rfl, by k_mem, ⟨_, _, _, rfl, by k_mem, by assumption⟩, ⟨_, _, _, rfl, by k_mem, by assumption⟩⟩
  | four h4 =>
    (unfold Says; intro mean mg mb dp un gd cn cs a ccd cl outer A₀ base h₀ L m s Q E B F X N T hk hd hu hret; refine wpAny_call ?_; k_dflt ktr_enter)
    k_steps
    (refine' hret _ _ _ _ ?e1 ?e2 ?e3 ?_; (case e1 => k_asm); (case e2 => first | exact ktn_tl0 (by k_asm) | k_asm | exact ktn_tl1 (by k_asm) | exact ktn_tl2 (by k_asm) | exact tl2 (by k_asm) | exact tlb2 (by k_asm) | exact tl3 (by k_asm) | exact tlb3 (by k_asm)); (case e3 => k_extra "X my ord"))
    refine TPost.mk ?_
    exact ⟨_, _, _, _, rfl, by k_mem, ⟨_, _, _, rfl, by k_mem, by assumption⟩, ⟨_, _, _, rfl, by k_mem, by assumption⟩⟩
  | seven h7 =>
    (unfold Says; intro mean mg mb dp un gd cn cs a ccd cl outer A₀ base h₀ L m s Q E B F X N T hk hd hu hret; refine wpAny_call ?_; k_dflt ktr_enter)
    k_steps
    (refine' hret _ _ _ _ ?e1 ?e2 ?e3 ?_; (case e1 => k_asm); (case e2 => first | exact ktn_tl0 (by k_asm) | k_asm | exact ktn_tl1 (by k_asm) | exact ktn_tl2 (by k_asm) | exact tl2 (by k_asm) | exact tlb2 (by k_asm) | exact tl3 (by k_asm) | exact tlb3 (by k_asm)); (case e3 => k_extra "X my ord"))
    refine TPost.mk ?_
    exact ⟨_, _, _, _, rfl, by k_mem, ⟨_, _, _, rfl, by k_mem, by assumption⟩, ⟨_, _, _, rfl, by k_mem, by assumption⟩⟩
  | both h4 h7 =>
    (unfold Says; intro mean mg mb dp un gd cn cs a ccd cl outer A₀ base h₀ L m s Q E B F X N T hk hd hu hret; refine wpAny_call ?_; k_dflt ktr_enter)
    k_steps
    (refine' hret _ _ _ _ ?e1 ?e2 ?e3 ?_; (case e1 => k_asm); (case e2 => first | exact ktn_tl0 (by k_asm) | k_asm | exact ktn_tl1 (by k_asm) | exact ktn_tl2 (by k_asm) | exact tl2 (by k_asm) | exact tlb2 (by k_asm) | exact tl3 (by k_asm) | exact tlb3 (by k_asm)); (case e3 => k_extra "X my ord"))
    refine TPost.mk ?_
    exact ⟨_, _, _, _, rfl, by k_mem, ⟨_, _, _, rfl, by k_mem, by assumption⟩, ⟨_, _, _, rfl, by k_mem, by assumption⟩⟩

theorem off_F13 : True := by
  k_with "off F13" => skip
  trivial
end
section
theorem anew_F14 : True := by
  w_top off
  trivial
theorem numbers3p {w : World} {news : Led} {v : Value} {d : Wish} {t : Tok} (ha : WishIn news v d) :
   Says w 208 1 8 news [v, .int 3 t] (fun l r => IntsIn l r (d.nums 3)) := (numbers_says (bits := 3) (by omega) ha).weaken fun _ _ h => h.1
theorem kw13 : True := by
  k_with "X call ref" => ((fail_if_success k_extra "off F14"); ((k_here; (with_reducible show wpAny _ _ (call (Value.ref 208) _) _ _ _); k_dflt (refine' Says.use (numbers3p ?h0z57) ?kBz57 ?kFz57 ?kXz57 ?kNz57 ?kTz57 ?kKz57 ?kDz57 ?kUz57 ?_; (case kBz57 => k_asm); (case kFz57 => k_asm); (case kXz57 => k_asm); (case kNz57 => k_asm); (case kTz57 => k_asm); (case kKz57 => first | exact rfl | assumption); (case kDz57 => ktr_room); (case kUz57 => ktr_units)); (case h0z57 => exact WishIn.mono (by assumption) (by k_extra "X my sub")); intro r9z57 tl9z57 h9z57 tk9z57 F9z57 N9z57 o9z57 p9z57; (try replace p9z57 := TPost.get p9z57); (try dsimp only [List.nil_append, List.cons_append] at N9z57); (try simp only [List.nil_append, List.cons_append, List.append_nil, List.append_assoc] at N9z57); (try dsimp only [List.nil_append, List.cons_append] at p9z57); (try simp only [List.nil_append, List.cons_append, List.append_nil, List.append_assoc] at p9z57); (revert p9z57; (first | with_reducible apply ListIn.imp | with_reducible apply IntsIn.imp); intro a9z57 n9z57 v9z57 m9z57 q9z57; clear r9z57); (try dsimp only); (try k_fold))))
  k_with "X call ref" => ((fail_if_success k_extra "off F14"); ((k_here; (with_reducible show wpAny _ _ (call (Value.ref 163) _) _ _ _); k_dflt (refine' Says.use (is_wish_within_says3 ?h0z58 ?h1z58 ?h2z58 ?h3z58) ?kBz58 ?kFz58 ?kXz58 ?kNz58 ?kTz58 ?kKz58 ?kDz58 ?kUz58 ?_; (case kBz58 => k_asm); (case kFz58 => k_asm); (case kXz58 => k_asm); (case kNz58 => k_asm); (case kTz58 => k_asm); (case kKz58 => first | exact rfl | assumption); (case kDz58 => ktr_room); (case kUz58 => ktr_units)); ((case h0z58 => exact WishIn.mono (by assumption) (by k_extra "X my sub")); (case h1z58 => exact WishIn.mono (by assumption) (by k_extra "X my sub")); (case h2z58 => assumption); (case h3z58 => assumption)); intro r9z58 tl9z58 h9z58 tk9z58 F9z58 N9z58 o9z58 p9z58; (try replace p9z58 := TPost.get p9z58); (try dsimp only [List.nil_append, List.cons_append] at N9z58); (try simp only [List.nil_append, List.cons_append, List.append_nil, List.append_assoc] at N9z58); (try dsimp only [List.nil_append, List.cons_append] at p9z58); (try simp only [List.nil_append, List.cons_append, List.append_nil, List.append_assoc] at p9z58); (subst p9z58); (try dsimp only); (try k_fold))))
  k_with "X call ref" => ((fail_if_success k_extra "off F14"); ((k_here; (with_reducible show wpAny _ _ (call (Value.ref 170) _) _ _ _); k_dflt (refine' Says.use (do_wishes_meet_says3 ?h0z59 ?h1z59 ?h2z59 ?h3z59) ?kBz59 ?kFz59 ?kXz59 ?kNz59 ?kTz59 ?kKz59 ?kDz59 ?kUz59 ?_; (case kBz59 => k_asm); (case kFz59 => k_asm); (case kXz59 => k_asm); (case kNz59 => k_asm); (case kTz59 => k_asm); (case kKz59 => first | exact rfl | assumption); (case kDz59 => ktr_room); (case kUz59 => ktr_units)); ((case h0z59 => exact WishIn.mono (by assumption) (by k_extra "X my sub")); (case h1z59 => exact WishIn.mono (by assumption) (by k_extra "X my sub")); (case h2z59 => assumption); (case h3z59 => assumption)); intro r9z59 tl9z59 h9z59 tk9z59 F9z59 N9z59 o9z59 p9z59; (try replace p9z59 := TPost.get p9z59); (try dsimp only [List.nil_append, List.cons_append] at N9z59); (try simp only [List.nil_append, List.cons_append, List.append_nil, List.append_assoc] at N9z59); (try dsimp only [List.nil_append, List.cons_append] at p9z59); (try simp only [List.nil_append, List.cons_append, List.append_nil, List.append_assoc] at p9z59); (subst p9z59); (try dsimp only); (try k_fold))))
  trivial
theorem pair_right_says {w : World} {news : Led} {v v' : Value} {d d' : Wish} (ha : WishIn news v d) (hb : WishIn news v' d') (ok : d.ok 3) (ok' : d'.ok 3) :
   Says w 232 4 128 news [v, v'] (fun _ r => r = .bool true) := by
  obtain ⟨a, rfl⟩ := ha.isRef
  obtain ⟨b, rfl⟩ := hb.isRef
  (unfold Says; intro mean mg mb dp un gd cn cs a ccd cl outer A₀ base h₀ L m s Q E B F X N T hk hd hu hret; refine wpAny_call ?_; k_dflt (refine' code_defC ?k1 ?k2 ?k3 ?k4 ?k5 ?kA ?kF ?kK ?k6 ?k7 ?k8 ?k9 ?kB ?kD ?_ ?c2 ?c3 ?c4; (case kA => exact rfl); (case kF => exact rfl); (case kK => assumption); (case k1 => k_asm); (case k2 => k_asm); (case k3 => k_asm); (case k4 => k_asm); (case k5 => k_asm); (case k6 => k_is); (case k7 => k_is); (case k8 => ktr_room); (case k9 => exact BindsTo.of_eq rfl); (case kB => exact rfl); (case kD => decide +kernel); (case c2 => exact rfl); (case c3 => exact rfl); (case c4 => exact rfl); k_whole; intro g' L' h' tk' cells' FG' F' N' Y' B' X' T' l1; (have l1a := lt_plus 1 l1); (have l1b := lt_plus 2 l1); (have l1c := lt_plus 3 l1); (have l1d := lt_plus 4 l1); k_cells Y'; (try simp only [List.cons_append, List.nil_append] at N'); (try dsimp only); (try k_lift B'); (try k_fold)))
  k_steps
  rename IntsAre _ (Wish.nums 3 d') => hi2
  rename IntsAre _ (Wish.nums 3 d) => hi1
  obtain ⟨nA, eA⟩ : ∃ nA, nA = d.nums 3 := ⟨_, rfl⟩
  obtain ⟨nB, eB⟩ : ∃ nB, nB = d'.nums 3 := ⟨_, rfl⟩
  rw [← eA] at hi1
  rw [← eB] at hi2
  have hlen := hi1.length
  refine' CSrc.list (fun i ys _ => ys.length ≤ i ∧ IntsAre ys ((nA.take i).filter fun n => nB.any (· == n))) ?hm rfl (by assumption) (by assumption) (by decide) rfl (by intro g h; cases h) ⟨Nat.le_refl _, .nil⟩ ?_ ?_
  case hm => k_mem
  · intro i v ys tl h tk I oI oC C D mC hv hp ho b3 off tr F1 hC1 N1
    obtain ⟨n, tn, rfl, hn⟩ := IntsAre_get hi1 hv
    refine CTurn.filter rfl rfl tr off F1 hC1 N1 ?_
    intro h2 oC2 mC2 tk2 E2 F2 hC2 hx N2
    have hnA : nA.length ≤ 256 := by rw [eA]; exact nums_small d 3 (by omega)
    clear eA eB
    (repeat' ((fail_if_success (with_reducible show CEnd _ _ _ _ _ _ _ _ _ _)); (fail_if_success (with_reducible show CEndY _ _ _ _ _ _ _ _ _ _ _)); first | (k_unfold; (try dsimp only)) | (k_end; kc_close) | walk1 | (dsimp only; walk1) | (leave1; walk_say "STEP leave1"; (try dsimp only)) | fail "no step"))
    all_goals first
      | ((refine' CEndY.mk (tl' := []) ?c1 ?c2 ?c3 ?c4 ?c5 ?c6 ktn_ord0 ?c7 ?_; (case c1 => k_asm); (case c2 => assumption); (case c3 => k_asm); (case c5 => assumption); (case c6 => assumption); (case c4 => k_extra "X my sub"))
         case c7 => rw [sizeLine_eq]; have := (List.getElem?_eq_some_iff.mp hn).1; omega
         have e : (nB.any fun x => x == n) = true := by assumption
         refine ⟨by simp; omega, ?_⟩
         rw [filter_take_snoc _ hn]
         simp only [e, if_true]
         exact IntsAre_snoc hp.2)
      | ((refine' CEnd.mk (tl' := []) ?c1 ?c2 ?c3 ?c4 ?c5 ?c6 ktn_ord0 ?_; (case c1 => k_asm); (case c2 => assumption); (case c3 => k_asm); (case c5 => assumption); (case c6 => assumption); (case c4 => k_extra "X my sub"))
         have e : (nB.any fun x => x == n) = false := by first | assumption | simpa using (by assumption : ¬ (nB.any fun x => x == n) = true)
         refine ⟨by omega, ?_⟩
         rw [filter_take_snoc _ hn]
         simp only [e, Bool.false_eq_true, if_false, List.append_nil]
         exact hp.2)
  · intro D ys tl h tk hp ho hD h2 tk2 F2 N2
    obtain ⟨hp1, hp2⟩ := hp
    (repeat' ((fail_if_success (with_reducible show CEnd _ _ _ _ _ _ _ _ _ _)); (fail_if_success (with_reducible show CEndY _ _ _ _ _ _ _ _ _ _ _)); first | (k_unfold; (try dsimp only)) | (k_end; kc_close) | walk1 | (dsimp only; walk1) | (leave1; walk_say "STEP leave1"; (try dsimp only)) | fail "no step"))
    all_goals
      (refine' hret _ [] _ _ ?e1 (ktn_tl0 ?e2) ktn_ord0 ?_; (case e1 => k_asm); (case e2 => first | k_asm | exact News.sub (by k_asm) (by k_extra "X my sub")))
      obtain ⟨L1, L2⟩ := pair_law ok ok'
      rw [hlen, List.take_length, eA, eB]
      first | (rw [L1]; simp only [beq_self_eq_true]) | (rw [L2]; simp only [beq_self_eq_true])

theorem off_F14 : True := by
  k_with "off F14" => skip
  trivial
end
section
theorem anew_F15 : True := by
  w_top off
  trivial
theorem kw14 : True := by
  k_with "X call ref" => ((fail_if_success k_extra "off F15"); ((k_here; (with_reducible show wpAny _ _ (call (Value.ref 128) _) _ _ _); k_dflt (refine' Says.use (range_masks_says ?h0z60 ?h1z60 ?h2z60 ?h3z60) ?kBz60 ?kFz60 ?kXz60 ?kNz60 ?kTz60 ?kKz60 ?kDz60 ?kUz60 ?_; (case kBz60 => k_asm); (case kFz60 => k_asm); (case kXz60 => k_asm); (case kNz60 => k_asm); (case kTz60 => k_asm); (case kKz60 => first | exact rfl | assumption); (case kDz60 => ktr_room); (case kUz60 => ktr_units)); ((case h0z60 => assumption); (case h1z60 => assumption); (case h2z60 => assumption); (case h3z60 => assumption)); intro r9z60 tl9z60 h9z60 tk9z60 F9z60 N9z60 o9z60 p9z60; (try replace p9z60 := TPost.get p9z60); (try dsimp only [List.nil_append, List.cons_append] at N9z60); (try simp only [List.nil_append, List.cons_append, List.append_nil, List.append_assoc] at N9z60); (try dsimp only [List.nil_append, List.cons_append] at p9z60); (try simp only [List.nil_append, List.cons_append, List.append_nil, List.append_assoc] at p9z60); (revert p9z60; (first | with_reducible apply ListIn.imp | with_reducible apply IntsIn.imp); intro a9z60 n9z60 v9z60 m9z60 q9z60; clear r9z60); (try dsimp only); (try k_fold))))
  k_with "X call ref" => ((fail_if_success k_extra "off F15"); ((k_here; (with_reducible show wpAny _ _ (call (Value.ref 208) _) _ _ _); k_dflt (refine' Says.use (numbers_says ?h0z61 ?h1z61) ?kBz61 ?kFz61 ?kXz61 ?kNz61 ?kTz61 ?kKz61 ?kDz61 ?kUz61 ?_; (case kBz61 => k_asm); (case kFz61 => k_asm); (case kXz61 => k_asm); (case kNz61 => k_asm); (case kTz61 => k_asm); (case kKz61 => first | exact rfl | assumption); (case kDz61 => ktr_room); (case kUz61 => ktr_units)); ((case h0z61 => assumption); (case h1z61 => exact WishIn.mask (by k_mem))); intro r9z61 tl9z61 h9z61 tk9z61 F9z61 N9z61 o9z61 p9z61; (try replace p9z61 := TPost.get p9z61); (try dsimp only [List.nil_append, List.cons_append] at N9z61); (try simp only [List.nil_append, List.cons_append, List.append_nil, List.append_assoc] at N9z61); (try dsimp only [List.nil_append, List.cons_append] at p9z61); (try simp only [List.nil_append, List.cons_append, List.append_nil, List.append_assoc] at p9z61); (revert p9z61; with_reducible apply ints_imp; intro a9z61 n9z61 v9z61 m9z61 q9z61 f9z61; clear r9z61); (try dsimp only); (try k_fold))))
  k_with "X call ref" => ((fail_if_success k_extra "off F15"); ((k_here; (with_reducible show wpAny _ _ (call (Value.ref 215) _) _ _ _); k_dflt (refine' Says.use (fewest_says _ ?hsz62 ?h1z62 ?h2z62 ?h3z62 ?h4z62 ?h5z62 ?h6z62) ?kBz62 ?kFz62 ?kXz62 ?kNz62 ?kTz62 ?kKz62 ?kDz62 ?kUz62 ?_; (case kBz62 => k_asm); (case kFz62 => k_asm); (case kXz62 => k_asm); (case kNz62 => k_asm); (case kTz62 => k_asm); (case kKz62 => first | exact rfl | assumption); (case kDz62 => ktr_room); (case kUz62 => ktr_units)); ((case hsz62 => simp); (case h1z62 => omega); (case h2z62 => omega); (case h3z62 => omega); (case h4z62 => omega); (case h5z62 => omega); (case h6z62 => simpa using hpb)); intro r9z62 tl9z62 h9z62 tk9z62 F9z62 N9z62 o9z62 p9z62; (try replace p9z62 := TPost.get p9z62); (try dsimp only [List.nil_append, List.cons_append] at N9z62); (try simp only [List.nil_append, List.cons_append, List.append_nil, List.append_assoc] at N9z62); (try dsimp only [List.nil_append, List.cons_append] at p9z62); (try simp only [List.nil_append, List.cons_append, List.append_nil, List.append_assoc] at p9z62); (revert p9z62; with_reducible apply any_imp; intro d9z62; clear r9z62); (try dsimp only); (try k_fold))))
  trivial
theorem range_right_says {w : World} {news : Led} {bits : Nat} {lo hi : Int} {t u v : Tok} (hb : bits ≤ 8) (h0 : 0 ≤ lo) (hlo : lo ≤ 256) (h1 : hi < 2 ^ bits) (hlh : lo ≤ hi) :
   Says w 220 12 200 news [.int lo t, .int hi u, .int bits v] (fun _ r => r = .bool true) := by
  (unfold Says; intro mean mg mb dp un gd cn cs a ccd cl outer A₀ base h₀ L m s Q E B F X N T hk hd hu hret; refine wpAny_call ?_; k_dflt (refine' code_defC ?k1 ?k2 ?k3 ?k4 ?k5 ?kA ?kF ?kK ?k6 ?k7 ?k8 ?k9 ?kB ?kD ?_ ?c2 ?c3 ?c4; (case kA => exact rfl); (case kF => exact rfl); (case kK => assumption); (case k1 => k_asm); (case k2 => k_asm); (case k3 => k_asm); (case k4 => k_asm); (case k5 => k_asm); (case k6 => k_is); (case k7 => k_is); (case k8 => ktr_room); (case k9 => exact BindsTo.of_eq rfl); (case kB => exact rfl); (case kD => decide +kernel); (case c2 => exact rfl); (case c3 => exact rfl); (case c4 => exact rfl); k_whole; intro g' L' h' tk' cells' FG' F' N' Y' B' X' T' l1; (have l1a := lt_plus 1 l1); (have l1b := lt_plus 2 l1); (have l1c := lt_plus 3 l1); (have l1d := lt_plus 4 l1); k_cells Y'; (try simp only [List.cons_append, List.nil_append] at N'); (try dsimp only); (try k_lift B'); (try k_fold)))
  k_steps
  rename All2 _ _ _ => hA
  refine' CSrc.list (fun i ys _ => ys.length ≤ i * 256 ∧ IntsAre ys (((rm bits lo hi).take i).flatMap fun p => (Wish.mask p.1 p.2).nums bits)) ?hm rfl (by assumption) (by assumption) (by decide) rfl (by intro g h; cases h; rfl) ⟨Nat.le_refl _, .nil⟩ ?_ ?_
  case hm => k_mem
  · intro i v ys tl h tk I oI oC C D mC hv hp ho b3 off tr F1 hC1 N1
    obtain ⟨p, hq, hR⟩ := hA.get hv
    obtain ⟨_, _, _, _, rfl, hR'⟩ := hR
    intro E1
    refine assign_comp2 rfl (by k_mem) rfl rfl rfl (by decide) tr off F1 hC1 N1 ?_
    intro h2 oC2 mC2 tk2 F2 hC2 hx1 hx2 hx3 N2
    refine wpAny_tests_nil ?_
    rw [if_pos rfl]
    refine emit_next rfl (by intro g h; cases h) ?_ (by intro _; rfl)
    (repeat' ((fail_if_success (with_reducible show CEnd _ _ _ _ _ _ _ _ _ _)); (fail_if_success (with_reducible show CEndY _ _ _ _ _ _ _ _ _ _ _)); first | (k_unfold; (try dsimp only)) | (k_end; kc_close) | walk1 | (dsimp only; walk1) | (leave1; walk_say "STEP leave1"; (try dsimp only)) | fail "no step"))
    rename IntsAre _ _ => hI
    obtain ⟨nB, eB⟩ : ∃ nB, nB = (Wish.mask p.1 p.2).nums bits := ⟨_, rfl⟩
    rw [← eB] at hI
    have hBl : nB.length ≤ 256 := by rw [eB]; exact nums_small _ _ hb
    rename ∀ q ∈ _, ∀ p ∈ _, (_ : Nat) < _ => o9
    refine' NSrc.mkCJ (fun j ys => ys.length ≤ i * 256 + j ∧ IntsAre ys (((rm bits lo hi).take i).flatMap (fun p => (Wish.mask p.1 p.2).nums bits) ++ nB.take j)) ?n1 ?n2 rfl ⟨_, _, rfl⟩ off ho o9 ?n3 ?n4 ?n5 hC2 tr ⟨hp.1, by rw [List.take_zero, List.append_nil]; exact hp.2⟩ ?n6 ?n7
    case n1 => k_asm
    case n2 => k_asm
    case n3 => k_extra "X my sub"
    case n4 => k_extra "X my sub"
    case n5 =>
      refine List.mem_append_right _ (List.mem_append_right _ (Fresh.tl ‹Fresh _ _› ?_))
      simp only [List.cons_append, List.append_assoc]
      assumption
    case n7 =>
      rintro ys ⟨q1, q2⟩
      rw [hI.length, List.take_length] at q2
      rw [hI.length] at q1
      refine ⟨by omega, ?_⟩
      rw [List.take_add_one, hq, List.flatMap_append]
      simpa [eB] using q2
    case n6 =>
      intro j v ys2 h3 tk3 I3 oI3 oC3 mC3 hv3 hj hlt off1 off2 tr3 F3 hC3 N3
      obtain ⟨n, tn, rfl, hn⟩ := IntsAre_get hI hv3
      refine CTurn.mapN rfl rfl rfl tr3 off1 F3 hC3 N3 ?_
      intro h4 oC4 mC4 tk4 E4 F4 hC4 hy1 hy2 N4
      (repeat' ((fail_if_success (with_reducible show CEnd _ _ _ _ _ _ _ _ _ _)); (fail_if_success (with_reducible show CEndY _ _ _ _ _ _ _ _ _ _ _)); first | (k_unfold; (try dsimp only)) | (k_end; kc_close) | walk1 | (dsimp only; walk1) | (leave1; walk_say "STEP leave1"; (try dsimp only)) | fail "no step"))
      refine CEndY.same (by k_asm) (by assumption) (by k_asm) (by k_extra "X my sub") off1 off2 ?q1 ?q2
      case q1 =>
        have e1 := rm_short hb h0 h1 (lo := lo)
        have e2 := (List.getElem?_eq_some_iff.mp hq).1
        have e3 := (List.getElem?_eq_some_iff.mp hn).1
        have e4 := hj.1
        rw [sizeLine_eq]; omega
      case q2 =>
        refine ⟨by simp; omega, ?_⟩
        rw [List.take_add_one, hn, ← List.append_assoc]
        exact IntsAre_snoc hj.2
  · intro D ys tl h tk hp ho hD h2 tk2 F2 N2
    have hI : IntsAre ys ((rm bits lo hi).flatMap fun p => (Wish.mask p.1 p.2).nums bits) := by
      have := hp.2
      rw [hA.length, List.take_length] at this
      exact this
    rw [rm_nums hb h0 h1 hlh] at hI
    dsimp only
    have hp8 := pow_le256 hb
    have hpz : (2 : Int) ^ bits = ((2 ^ bits : Nat) : Int) := by simp
    have hhi : hi ≤ 255 := by rw [hpz] at h1; generalize 2 ^ bits = z at *; omega
    have hpb : (0 : Int) + 2 ^ bits ≤ 1000 := by rw [hpz]; generalize 2 ^ bits = z at *; omega
    have hrl := rm_short hb h0 h1 (lo := lo)
    have hfew := rm_few h0 h1 hlh (bits := bits)
    have hvl := hA.length
    k_steps
    refine CSrc.range (n := (hi + 1 - lo).toNat) (fun i ys _ => ys.length ≤ i ∧ IntsAre ys ((List.range i).map fun i : Nat => lo + (i : Int))) (by assumption) (small_one (by omega) (by omega) (by omega) (by omega)) ?_ rfl (by assumption) (by assumption) (by decide) rfl (by intro g h; cases h) ⟨Nat.le_refl _, .nil⟩ ?_ ?_
    · rw [rangeSize_nat]
    · intro i tv ys tl h tk I oI oC C D mC hi hp ho b3 off tr F1 hC1 N1
      refine CTurn.map rfl rfl tr off F1 hC1 N1 ?_
      intro h2 oC2 mC2 tk2 E2 F2 hC2 hx N2
      k_steps
      (refine' CEndY.mk (tl' := []) ?c1 ?c2 ?c3 ?c4 ?c5 ?c6 ktn_ord0 ?c7 ?_; (case c1 => k_asm); (case c2 => assumption); (case c3 => k_asm); (case c5 => assumption); (case c6 => assumption); (case c4 => k_extra "X my sub"))
      case c7 => rw [sizeLine_eq]; omega
      · refine ⟨by simp; omega, ?_⟩
        rw [List.range_succ, List.map_append]
        exact IntsAre_snoc hp.2
    · intro D2 ys2 tl2 h3 tk3 hp2 ho2 hD2 h4 F4 N4
      have hI2 := hp2.2
      k_steps
      · k_steps
        (k_here; k_dflt (refine' Says.use (fewest_says bits ?hs ?h1 ?h2 ?h3 ?h4 ?h5 ?h6) ?kB ?kF ?kX ?kN ?kT ?kK ?kD ?kU ?_; (case kB => k_asm); (case kF => k_asm); (case kX => k_asm); (case kN => k_asm); (case kT => k_asm); (case kK => first | exact rfl | assumption); (case kD => ktr_room); (case kU => ktr_units)); ((case hs => simp); (case h1 => omega); (case h2 => omega); (case h3 => omega); (case h4 => omega); (case h5 => omega); (case h6 => exact hpb)); intro r9 tl9 h9 tk9 F9 N9 o9 p9; (try replace p9 := TPost.get p9); (try dsimp only [List.nil_append, List.cons_append] at N9); (try simp only [List.nil_append, List.cons_append, List.append_nil, List.append_assoc] at N9); (try dsimp only [List.nil_append, List.cons_append] at p9); (try simp only [List.nil_append, List.cons_append, List.append_nil, List.append_assoc] at p9); (obtain ⟨_, e9⟩ := p9; subst e9); (try dsimp only); (try k_fold))
        k_steps
        (refine' hret _ [] _ _ ?e1 (ktn_tl0 ?e2) ktn_ord0 ?_; (case e1 => k_asm); (case e2 => first | k_asm | exact News.sub (by k_asm) (by k_extra "X my sub")))
        rw [hvl, hfew]
        simp
      · exfalso
        rename ¬ (_ = _) => q9
        exact q9 rfl

theorem off_F15 : True := by
  k_with "off F15" => skip
  trivial
end
section
theorem anew_F17 : True := by
  w_top off
  trivial
theorem check_mask3 {w : World} {news : Led} {a : Addr} {n : Nat} {x y : Int} {s' t' u' t : Tok} (h0 : 0 ≤ y) (h1 : y < 8) (h2 : Builtin.bitAnd x y = x) (ha : (a, tupO [.str (Str.ofString "mask") s', .int x t', .int y u'] n) ∈ news) :
   Says w 81 1 16 news [.ref a, .int 3 t] (fun _ r => r = .none) := by
  (unfold Says; intro mean mg mb dp un gd cn cs a ccd cl outer A₀ base h₀ L m s Q E B F X N T hk hd hu hret; refine wpAny_call ?_; k_dflt ktr_enter)
  k_steps
  all_goals first | ((refine' hret _ [] _ _ ?e1 (ktn_tl0 ?e2) ktn_ord0 ?_; (case e1 => k_asm); (case e2 => first | k_asm | exact News.sub (by k_asm) (by k_extra "X my sub"))); rfl) | (exfalso; first | omega | (simp only [Int.reduceToNat, Int.reducePow] at *; omega) | contradiction)
theorem check_range3 {w : World} {news : Led} {a : Addr} {n : Nat} {x y : Int} {s' t' u' t : Tok} (h0 : 0 ≤ x) (h1 : x ≤ y) (h2 : y < 8) (ha : (a, tupO [.str (Str.ofString "range") s', .int x t', .int y u'] n) ∈ news) :
   Says w 81 1 16 news [.ref a, .int 3 t] (fun _ r => r = .none) := by
  (unfold Says; intro mean mg mb dp un gd cn cs a ccd cl outer A₀ base h₀ L m s Q E B F X N T hk hd hu hret; refine wpAny_call ?_; k_dflt ktr_enter)
  k_steps
  all_goals first | ((refine' hret _ [] _ _ ?e1 (ktn_tl0 ?e2) ktn_ord0 ?_; (case e1 => k_asm); (case e2 => first | k_asm | exact News.sub (by k_asm) (by k_extra "X my sub"))); rfl) | (exfalso; first | omega | (simp only [Int.reduceToNat, Int.reducePow] at *; omega) | contradiction)
theorem check_range8 {w : World} {news : Led} {a : Addr} {n : Nat} {x y : Int} {s' t' u' t : Tok} (h0 : 0 ≤ x) (h1 : x ≤ y) (h2 : y < 256) (ha : (a, tupO [.str (Str.ofString "range") s', .int x t', .int y u'] n) ∈ news) :
   Says w 81 1 16 news [.ref a, .int 8 t] (fun _ r => r = .none) := by
  (unfold Says; intro mean mg mb dp un gd cn cs a ccd cl outer A₀ base h₀ L m s Q E B F X N T hk hd hu hret; refine wpAny_call ?_; k_dflt ktr_enter)
  k_steps
  all_goals first | ((refine' hret _ [] _ _ ?e1 (ktn_tl0 ?e2) ktn_ord0 ?_; (case e1 => k_asm); (case e2 => first | k_asm | exact News.sub (by k_asm) (by k_extra "X my sub"))); rfl) | (exfalso; first | omega | (simp only [Int.reduceToNat, Int.reducePow] at *; omega) | contradiction)
theorem check_wish3 {w : World} {news : Led} {v : Value} {d : Wish} {t : Tok} (ha : WishIn news v d) (ok : d.ok 3) :
   Says w 81 1 16 news [v, .int 3 t] (fun _ r => r = .none) := by
  cases ha with
  | mask h => exact check_mask3 ok.1 ok.2.1 ok.2.2 h
  | range h => exact check_range3 ok.1 ok.2.1 ok.2.2 h
theorem check_mask8 {w : World} {news : Led} {a : Addr} {n : Nat} {x y : Int} {s' t' u' t : Tok} (h0 : 0 ≤ y) (h1 : y < 256) (h2 : Builtin.bitAnd x y = x) (ha : (a, tupO [.str (Str.ofString "mask") s', .int x t', .int y u'] n) ∈ news) :
   Says w 81 1 16 news [.ref a, .int 8 t] (fun _ r => r = .none) := by
  (unfold Says; intro mean mg mb dp un gd cn cs a ccd cl outer A₀ base h₀ L m s Q E B F X N T hk hd hu hret; refine wpAny_call ?_; k_dflt ktr_enter)
  k_steps
  all_goals first | ((refine' hret _ [] _ _ ?e1 (ktn_tl0 ?e2) ktn_ord0 ?_; (case e1 => k_asm); (case e2 => first | k_asm | exact News.sub (by k_asm) (by k_extra "X my sub"))); rfl) | (exfalso; first | omega | (simp only [Int.reduceToNat, Int.reducePow] at *; omega) | contradiction)
theorem check_wish8 {w : World} {news : Led} {v : Value} {d : Wish} {t : Tok} (ha : WishIn news v d) (ok : d.ok 8) :
   Says w 81 1 16 news [v, .int 8 t] (fun _ r => r = .none) := by
  cases ha with
  | mask h => exact check_mask8 ok.1 ok.2.1 ok.2.2 h
  | range h => exact check_range8 ok.1 ok.2.1 ok.2.2 h

theorem off_F17 : True := by
  k_with "off F17" => skip
  trivial
end
section
theorem anew_F18 : True := by
  w_top off
  trivial
theorem kw15 : True := by
  k_with "X call ref" => ((fail_if_success k_extra "off F18"); ((k_here; (with_reducible show wpAny _ _ (call (Value.ref 81) _) _ _ _); k_dflt (refine' Says.use (check_wish3 ?h0z63 ?h1z63) ?kBz63 ?kFz63 ?kXz63 ?kNz63 ?kTz63 ?kKz63 ?kDz63 ?kUz63 ?_; (case kBz63 => k_asm); (case kFz63 => k_asm); (case kXz63 => k_asm); (case kNz63 => k_asm); (case kTz63 => k_asm); (case kKz63 => first | exact rfl | assumption); (case kDz63 => ktr_room); (case kUz63 => ktr_units)); ((case h0z63 => exact WishIn.mono (by assumption) (by k_extra "X my sub")); (case h1z63 => assumption)); intro r9z63 tl9z63 h9z63 tk9z63 F9z63 N9z63 o9z63 p9z63; (try replace p9z63 := TPost.get p9z63); (try dsimp only [List.nil_append, List.cons_append] at N9z63); (try simp only [List.nil_append, List.cons_append, List.append_nil, List.append_assoc] at N9z63); (try dsimp only [List.nil_append, List.cons_append] at p9z63); (try simp only [List.nil_append, List.cons_append, List.append_nil, List.append_assoc] at p9z63); (subst p9z63); (try dsimp only); (try k_fold))))
  k_with "X call ref" => ((fail_if_success k_extra "off F18"); ((k_here; (with_reducible show wpAny _ _ (call (Value.ref 81) _) _ _ _); k_dflt (refine' Says.use (check_wish8 ?h0z64 ?h1z64) ?kBz64 ?kFz64 ?kXz64 ?kNz64 ?kTz64 ?kKz64 ?kDz64 ?kUz64 ?_; (case kBz64 => k_asm); (case kFz64 => k_asm); (case kXz64 => k_asm); (case kNz64 => k_asm); (case kTz64 => k_asm); (case kKz64 => first | exact rfl | assumption); (case kDz64 => ktr_room); (case kUz64 => ktr_units)); ((case h0z64 => exact WishIn.mono (by assumption) (by k_extra "X my sub")); (case h1z64 => assumption)); intro r9z64 tl9z64 h9z64 tk9z64 F9z64 N9z64 o9z64 p9z64; (try replace p9z64 := TPost.get p9z64); (try dsimp only [List.nil_append, List.cons_append] at N9z64); (try simp only [List.nil_append, List.cons_append, List.append_nil, List.append_assoc] at N9z64); (try dsimp only [List.nil_append, List.cons_append] at p9z64); (try simp only [List.nil_append, List.cons_append, List.append_nil, List.append_assoc] at p9z64); (subst p9z64); (try dsimp only); (try k_fold))))
  k_with "X exec For Name Call cons nil" => ((fail_if_success k_extra "off F18"); ((k_here; (rename Fr _ _ _ _ => lF'z65); (with_unfolding_all refine' for_led lF'z65 ?_))))
  trivial
theorem rule_new {w : World} {news n0 : Led} {v : Value} {d : WD} {t : Tok} {act : Str} (hact : act = Str.ofString "let" ∨ act = Str.ofString "drop") (hd : DictIn w n0 v d) (hn0 : ∀ p ∈ n0, p ∈ news) (ok : WD.okG d) :
   Says w 117 4 64 news [.str act t, v] (TPost news n0 fun l r => RuleIn w act l r d) := by
  obtain ⟨va, o, kvs, rfl, hm0, hs, ho, hkv0⟩ := hd
  have hm := hn0 _ hm0
  have hkv := hkv0.mono hn0
  have hkl := hkv.len
  have hany : ([Str.ofString "let", Str.ofString "drop"].any fun x => x == act) = true := by rcases hact with rfl | rfl <;> decide
  have hks := hkv.sorted
  unfold Says; intro mean mg mb dp un gd cn cs ca ccd cl outer A₀ base h₀ L m s Q E B F X N T hk hd hu hret
  k_dflt (refine' call_cls ?k1 ?k2 ?k3 ?k4 ?k5 ?k6 ?_; (case k1 => k_asm); (case k2 => k_asm); (case k3 => k_asm); (case k4 => k_is); (case k5 => k_is); (case k6 => k_is); k_whole; intro x' d' h' F' N' l1 l2; (try k_lt l1); (try k_lt2 l2); (try k_sweep))
  k_dflt ktr_enter
  k_steps
  rename IntsAre _ _ => hi
  refine' ForSrc.search [Str.ofString "place"] (fun i => True) ?hm rfl (by assumption) (by assumption) trivial ?_ ?_
  case hm => k_mem
  · intro i v tl u h tk I oI hv hp ho off F1 N1
    obtain ⟨k, tk, a, x, rfl, _, hW, hV, hc⟩ := hkv.at hi hv
    rcases hc with ⟨rfl, hc⟩ | ⟨rfl, hc⟩
    · have ok4 := ok.1 _ hc
      k_steps
      (refine' ForPost.search (tl' := []) ?f1 ?f2 ?f3 ?f4 ?f5 ktn_ord0 ?f6 ?_; (case f2 => k_asm); (case f3 => k_asm); (case f1 => assumption); (case f4 => k_extra "X my sub"); (case f5 => assumption); (case f6 => (intro z hz; (simp only [List.contains_cons, List.contains_nil, Bool.or_false, Bool.or_eq_false_iff, beq_eq_false_iff_ne, ne_eq] at hz); (simp [hz]; done))))
      trivial
    · have ok8 := ok.2 _ hc
      k_steps
      (refine' ForPost.search (tl' := []) ?f1 ?f2 ?f3 ?f4 ?f5 ktn_ord0 ?f6 ?_; (case f2 => k_asm); (case f3 => k_asm); (case f1 => assumption); (case f4 => k_extra "X my sub"); (case f5 => assumption); (case f6 => (intro z hz; (simp only [List.contains_cons, List.contains_nil, Bool.or_false, Bool.or_eq_false_iff, beq_eq_false_iff_ne, ne_eq] at hz); (simp [hz]; done))))
      trivial
  · intro tl u h tk hp ho F1 N1
    simp only [List.cons_append] at N1
    k_steps
    · have l3 : ∀ q ∈ news, q.1 < x' := fun q hq => Nat.lt_trans (l1 q hq) l2
      (refine' hret _ [(x', instObj 117 d'), (d', dictOf _ 2), (_, _)] _ _ ?e1 ?e2 ?e3 ?_; (case e1 => k_asm); (case e2 => exact News.sub (by k_asm) (by k_extra "X my sub")); (case e3 => k_extra "X my ord"))
      refine TPost.mk ?_
      exact ⟨_, _, _, _, _, _, rfl, by k_mem, by k_mem, ⟨_, _, _, rfl, by k_mem, by assumption, by assumption, hkv0.mono (by k_extra "X my sub")⟩⟩

theorem off_F18 : True := by
  k_with "off F18" => skip
  trivial
end
section
theorem anew_F19 : True := by
  w_top off
  trivial
theorem rows_says {w : World} {news : Led} {v : Value} {d : WD} {act : Str} (ha : RuleIn w act news v d) :
   Says w 100 3 24 news [v] (fun l r => ListIn EntryIn l r d.entries ∧ Fresh news r) := by
  obtain ⟨x, dx, t, t1, t2, wv, rfl, hx, hdx, hwv⟩ := ha
  obtain ⟨a, o, kvs, rfl, hm, hsys, hd, hkv⟩ := hwv
  have hkl := hkv.len
  have hks := hkv.sorted
  have hke := hkv.elen
  (unfold Says; intro mean mg mb dp un gd cn cs a ccd cl outer A₀ base h₀ L m s Q E B F X N T hk hd hu hret; refine wpAny_call ?_; k_dflt (refine' code_defC ?k1 ?k2 ?k3 ?k4 ?k5 ?kA ?kF ?kK ?k6 ?k7 ?k8 ?k9 ?kB ?kD ?_ ?c2 ?c3 ?c4; (case kA => exact rfl); (case kF => exact rfl); (case kK => assumption); (case k1 => k_asm); (case k2 => k_asm); (case k3 => k_asm); (case k4 => k_asm); (case k5 => k_asm); (case k6 => k_is); (case k7 => k_is); (case k8 => ktr_room); (case k9 => exact BindsTo.of_eq rfl); (case kB => exact rfl); (case kD => decide +kernel); (case c2 => exact rfl); (case c3 => exact rfl); (case c4 => exact rfl); k_whole; intro g' L' h' tk' cells' FG' F' N' Y' B' X' T' l1; (have l1a := lt_plus 1 l1); (have l1b := lt_plus 2 l1); (have l1c := lt_plus 3 l1); (have l1d := lt_plus 4 l1); k_cells Y'; (try simp only [List.cons_append, List.nil_append] at N'); (try dsimp only); (try k_lift B'); (try k_fold)))
  k_steps
  rename IntsAre _ _ => hi
  have hil := hi.length
  rw [List.length_map, hkv.elen] at hil
  refine' CSrc.list (fun i ys l => ys.length ≤ i ∧ All2 (EntryIn l) ys (d.entries.take i)) ?hm rfl (by assumption) (by assumption) (by decide) rfl (by intro g h; cases h) ⟨Nat.le_refl _, .nil⟩ ?_ ?_
  case hm => k_mem
  · intro i v ys tl h tk I oI oC C D mC hv hp ho b3 off tr F1 hC1 N1
    obtain ⟨k, tk, a, x, rfl, he, hW, hV, hc⟩ := hkv.at hi hv
    refine CTurn.map rfl rfl tr off F1 hC1 N1 ?_
    intro h2 oC2 mC2 tk2 E2 F2 hC2 hx N2
    (repeat' ((fail_if_success (with_reducible show CEnd _ _ _ _ _ _ _ _ _ _)); (fail_if_success (with_reducible show CEndY _ _ _ _ _ _ _ _ _ _ _)); first | (k_unfold; (try dsimp only)) | (k_end; kc_close) | walk1 | (dsimp only; walk1) | (leave1; walk_say "STEP leave1"; (try dsimp only)) | fail "no step"))
    (refine' CEndY.mk (tl' := [(_, tupO _ 0)]) ?c1 ?c2 ?c3 ?c4 ?c5 ?c6 ?c8 ?c7 ?_; (case c1 => k_asm); (case c2 => assumption); (case c3 => k_asm); (case c5 => assumption); (case c6 => assumption); (case c4 => k_extra "X my sub"); (case c8 => k_extra "X my ord"))
    case c7 => 
      have := hp.1
      have := (List.getElem?_eq_some_iff.mp hv).1
      rw [sizeLine_eq]; omega
    · refine ⟨by simp; have := hp.1; omega, ?_⟩
      rw [List.take_add_one, he]
      exact (hp.2.imp fun _ _ h => h.mono (by k_extra "X my sub")).append (.cons ⟨_, _, _, _, rfl, by k_mem, hW.mono (by k_extra "X my sub")⟩ .nil)
  · intro D ys tl h tk hp ho hD h2 F2 N2
    k_steps
    (refine' hret _ _ _ _ ?e1 (tlc2 ?e2) ?e3 ?_; (case e1 => k_asm); (case e2 => k_asm); (case e3 => k_extra "X my ord"))
    refine ⟨⟨_, _, _, rfl, by k_mem, ?_⟩, Fresh.mk (by k_extra "X my lt")⟩
    have e := hp.2
    rw [hil, List.take_length] at e
    exact e.imp fun _ _ h => h.mono (by k_extra "X my sub")

theorem off_F19 : True := by
  k_with "off F19" => skip
  trivial
end
section
theorem anew_F20 : True := by
  w_top off
  trivial
theorem rm8 {w : World} {news : Led} {lo hi : Int} {t u v : Tok} (h0 : 0 ≤ lo) (hlo : lo ≤ 256) (h1 : hi < 256) :
   Says w 128 1 8 news [.int lo t, .int hi u, .int 8 v] (fun l r => ListIn PairIn l r (rm 8 lo hi)) := range_masks_says (bits := 8) (by omega) h0 hlo (by simpa using h1)
theorem kw16 : True := by
  k_with "X call ref" => ((fail_if_success k_extra "off F20"); ((k_here; (with_reducible show wpAny _ _ (call (Value.ref 128) _) _ _ _); k_dflt (refine' Says.use (rm8 ?h0z66 ?hlz66 ?h1z66) ?kBz66 ?kFz66 ?kXz66 ?kNz66 ?kTz66 ?kKz66 ?kDz66 ?kUz66 ?_; (case kBz66 => k_asm); (case kFz66 => k_asm); (case kXz66 => k_asm); (case kNz66 => k_asm); (case kTz66 => k_asm); (case kKz66 => first | exact rfl | assumption); (case kDz66 => ktr_room); (case kUz66 => ktr_units)); ((case h0z66 => omega); (case hlz66 => omega); (case h1z66 => omega)); intro r9z66 tl9z66 h9z66 tk9z66 F9z66 N9z66 o9z66 p9z66; (try replace p9z66 := TPost.get p9z66); (try dsimp only [List.nil_append, List.cons_append] at N9z66); (try simp only [List.nil_append, List.cons_append, List.append_nil, List.append_assoc] at N9z66); (try dsimp only [List.nil_append, List.cons_append] at p9z66); (try simp only [List.nil_append, List.cons_append, List.append_nil, List.append_assoc] at p9z66); (revert p9z66; (first | with_reducible apply ListIn.imp | with_reducible apply IntsIn.imp); intro a9z66 n9z66 v9z66 m9z66 q9z66; clear r9z66); (try dsimp only); (try k_fold))))
  trivial
theorem wish_ends8 {w : World} {news : Led} {v : Value} {a b : Int} {t : Tok} (ha : WishIn news v (.range a b)) :
   Says w 156 1 8 news [v, .int 8 t] (fun l r => PairIn l r (a, b)) := by
  cases ha with
  | range ha =>
  (unfold Says; intro mean mg mb dp un gd cn cs a ccd cl outer A₀ base h₀ L m s Q E B F X N T hk hd hu hret; refine wpAny_call ?_; k_dflt ktr_enter)
  k_steps
  (refine' hret _ _ _ _ ?e1 ?e2 ?e3 ?_; (case e1 => k_asm); (case e2 => first | exact ktn_tl0 (by k_asm) | k_asm | exact ktn_tl1 (by k_asm) | exact ktn_tl2 (by k_asm) | exact tl2 (by k_asm) | exact tlb2 (by k_asm) | exact tl3 (by k_asm) | exact tlb3 (by k_asm)); (case e3 => k_extra "X my ord"))
  exact PairIn.mk ktn_new
theorem kw17 : True := by
  k_with "X call ref" => ((fail_if_success k_extra "off F20"); ((k_here; (with_reducible show wpAny _ _ (call (Value.ref 156) _) _ _ _); k_dflt (refine' Says.use (wish_ends8 ?h0z67) ?kBz67 ?kFz67 ?kXz67 ?kNz67 ?kTz67 ?kKz67 ?kDz67 ?kUz67 ?_; (case kBz67 => k_asm); (case kFz67 => k_asm); (case kXz67 => k_asm); (case kNz67 => k_asm); (case kTz67 => k_asm); (case kKz67 => first | exact rfl | assumption); (case kDz67 => ktr_room); (case kUz67 => ktr_units)); (case h0z67 => exact WishIn.range (by k_mem)); intro r9z67 tl9z67 h9z67 tk9z67 F9z67 N9z67 o9z67 p9z67; (try replace p9z67 := TPost.get p9z67); (try dsimp only [List.nil_append, List.cons_append] at N9z67); (try simp only [List.nil_append, List.cons_append, List.append_nil, List.append_assoc] at N9z67); (try dsimp only [List.nil_append, List.cons_append] at p9z67); (try simp only [List.nil_append, List.cons_append, List.append_nil, List.append_assoc] at p9z67); (revert p9z67; with_reducible apply PairIn.imp; intro a9z67 n9z67 t9z67 u9z67 m9z67; clear r9z67); (try dsimp only); (try k_fold))))
  trivial
theorem within8 {w : World} {news : Led} {v v' : Value} {p q p2 q2 : Int} {t : Tok} (ha : WishIn news v (.range p q)) (hb : WishIn news v' (.range p2 q2)) :
   Says w 163 3 24 news [v, v', .int 8 t] (fun _ r => r = .bool ((Wish.range p q).within 8 (.range p2 q2))) := by
  cases ha with
  | range ha =>
  cases hb with
  | range hb =>
  (unfold Says; intro mean mg mb dp un gd cn cs a ccd cl outer A₀ base h₀ L m s Q E B F X N T hk hd hu hret; refine wpAny_call ?_; k_dflt ktr_enter)
  k_steps
  · (refine' hret _ _ _ _ ?e1 ?e2 ?e3 ?_; (case e1 => k_asm); (case e2 => first | exact ktn_tl0 (by k_asm) | k_asm | exact ktn_tl1 (by k_asm) | exact ktn_tl2 (by k_asm) | exact tl2 (by k_asm) | exact tlb2 (by k_asm) | exact tl3 (by k_asm) | exact tlb3 (by k_asm)); (case e3 => k_extra "X my ord"))
    have hc : p2 ≤ p := by assumption
    simp only [Wish.within, Wish.ends, hc, decide_true, Bool.true_and]; rfl
  · (refine' hret _ _ _ _ ?e1 ?e2 ?e3 ?_; (case e1 => k_asm); (case e2 => first | exact ktn_tl0 (by k_asm) | k_asm | exact ktn_tl1 (by k_asm) | exact ktn_tl2 (by k_asm) | exact tl2 (by k_asm) | exact tlb2 (by k_asm) | exact tl3 (by k_asm) | exact tlb3 (by k_asm)); (case e3 => k_extra "X my ord"))
    have hc : ¬ p2 ≤ p := by assumption
    simp only [Wish.within, Wish.ends, hc, decide_false, Bool.false_and]
theorem rows_says' {w : World} {news : Led} {v : Value} {d : WD} {act : Str} (ha : RuleIn w act news v d) :
   Says w 100 3 24 news [v] (fun l r => ListIn EntryIn l r d.entries) := (rows_says ha).weaken (fun _ _ h => h.1)
theorem kw18 : True := by
  k_with "X call ref" => ((fail_if_success k_extra "off F20"); ((k_here; (with_reducible show wpAny _ _ (call (Value.ref 163) _) _ _ _); k_dflt (refine' Says.use (is_wish_within_says3 ?h0z68 ?h1z68 ?h2z68 ?h3z68) ?kBz68 ?kFz68 ?kXz68 ?kNz68 ?kTz68 ?kKz68 ?kDz68 ?kUz68 ?_; (case kBz68 => k_asm); (case kFz68 => k_asm); (case kXz68 => k_asm); (case kNz68 => k_asm); (case kTz68 => k_asm); (case kKz68 => first | exact rfl | assumption); (case kDz68 => ktr_room); (case kUz68 => ktr_units)); ((case h0z68 => exact WishIn.mono (by assumption) (by k_extra "X my sub")); (case h1z68 => exact WishIn.mono (by assumption) (by k_extra "X my sub")); (case h2z68 => assumption); (case h3z68 => assumption)); intro r9z68 tl9z68 h9z68 tk9z68 F9z68 N9z68 o9z68 p9z68; (try replace p9z68 := TPost.get p9z68); (try dsimp only [List.nil_append, List.cons_append] at N9z68); (try simp only [List.nil_append, List.cons_append, List.append_nil, List.append_assoc] at N9z68); (try dsimp only [List.nil_append, List.cons_append] at p9z68); (try simp only [List.nil_append, List.cons_append, List.append_nil, List.append_assoc] at p9z68); (subst p9z68); (try dsimp only); (try k_fold))))
  k_with "X call ref" => ((fail_if_success k_extra "off F20"); ((k_here; (with_reducible show wpAny _ _ (call (Value.ref 163) _) _ _ _); k_dflt (refine' Says.use (within8 ?h0z69 ?h1z69) ?kBz69 ?kFz69 ?kXz69 ?kNz69 ?kTz69 ?kKz69 ?kDz69 ?kUz69 ?_; (case kBz69 => k_asm); (case kFz69 => k_asm); (case kXz69 => k_asm); (case kNz69 => k_asm); (case kTz69 => k_asm); (case kKz69 => first | exact rfl | assumption); (case kDz69 => ktr_room); (case kUz69 => ktr_units)); ((case h0z69 => exact WishIn.mono (by assumption) (by k_extra "X my sub")); (case h1z69 => exact WishIn.mono (by assumption) (by k_extra "X my sub"))); intro r9z69 tl9z69 h9z69 tk9z69 F9z69 N9z69 o9z69 p9z69; (try replace p9z69 := TPost.get p9z69); (try dsimp only [List.nil_append, List.cons_append] at N9z69); (try simp only [List.nil_append, List.cons_append, List.append_nil, List.append_assoc] at N9z69); (try dsimp only [List.nil_append, List.cons_append] at p9z69); (try simp only [List.nil_append, List.cons_append, List.append_nil, List.append_assoc] at p9z69); (subst p9z69); (try dsimp only); (try k_fold))))
  k_with "X call ref" => ((fail_if_success k_extra "off F20"); ((k_here; (with_reducible show wpAny _ _ (call (Value.ref 100) _) _ _ _); k_dflt (refine' Says.use (rows_says' ?h0z70) ?kBz70 ?kFz70 ?kXz70 ?kNz70 ?kTz70 ?kKz70 ?kDz70 ?kUz70 ?_; (case kBz70 => k_asm); (case kFz70 => k_asm); (case kXz70 => k_asm); (case kNz70 => k_asm); (case kTz70 => k_asm); (case kKz70 => first | exact rfl | assumption); (case kDz70 => ktr_room); (case kUz70 => ktr_units)); (case h0z70 => exact RuleIn.mono (by assumption) (by k_extra "X my sub")); intro r9z70 tl9z70 h9z70 tk9z70 F9z70 N9z70 o9z70 p9z70; (try replace p9z70 := TPost.get p9z70); (try dsimp only [List.nil_append, List.cons_append] at N9z70); (try simp only [List.nil_append, List.cons_append, List.append_nil, List.append_assoc] at N9z70); (try dsimp only [List.nil_append, List.cons_append] at p9z70); (try simp only [List.nil_append, List.cons_append, List.append_nil, List.append_assoc] at p9z70); (revert p9z70; (first | with_reducible apply ListIn.imp | with_reducible apply IntsIn.imp); intro a9z70 n9z70 v9z70 m9z70 q9z70; clear r9z70); (try dsimp only); (try k_fold))))
  k_with "X exec For Tuple Call cons nil" => ((fail_if_success k_extra "off F20"); ((k_here; (rename Fr _ _ _ _ => lF'z71); (with_unfolding_all refine' for_led lF'z71 ?_))))
  trivial
theorem is_rule_within_says {w : World} {news : Led} {v v' : Value} {d d' : WD} {act : Str} (ha : RuleIn w act news v d) (hb : RuleIn w act news v' d') (ok : WD.ok d) (ok' : WD.ok d') :
   Says w 177 5 96 news [v, v'] (fun _ r => r = .bool (d.within d')) := by
  obtain ⟨x', _, _, _, _, _, rfl, _, _, _⟩ := id hb
  obtain ⟨x, dx, t, t1, t2, wv, rfl, hx, hdx, hwv⟩ := id ha
  obtain ⟨da, o, kvs, rfl, hm, hsys, hd, hkv⟩ := hwv
  (unfold Says; intro mean mg mb dp un gd cn cs a ccd cl outer A₀ base h₀ L m s Q E B F X N T hk hd hu hret; refine wpAny_call ?_; k_dflt ktr_enter)
  k_steps
  rename All2 _ _ _ => hA
  refine' ForSrc.search [Str.ofString "place", Str.ofString "wish", Str.ofString "own"] (fun i => (d'.entries.take i).all d.entryWithin = true) ?hm rfl (by assumption) (by assumption) rfl ?_ ?_
  case hm => k_mem
  · intro i v tl u h tk I oI hv hp ho off F1 N1
    obtain ⟨⟨k, y⟩, hq, b, n, tb, wv', rfl, hb, hW⟩ := hA.get hv
    have hat := WD.entry_at hq
    dsimp only at hb hW hat
    have hq' := List.mem_of_getElem? hq
    rcases hat with ⟨rfl, hy⟩ | ⟨rfl, hy⟩
    · have oky := ok'.1 _ hy
      rcases hkv.get4 with ⟨h1, h2⟩ | ⟨x, xa, h1, h2, hX⟩
      · have hf : d.entryWithin (4, y) = false := by simp [WD.entryWithin, WD.get, h1]
        k_steps
        (refine' hret _ [] _ _ ?e1 (ktn_tl0 ?e2) ktn_ord0 ?_; (case e1 => k_asm); (case e2 => first | k_asm | exact News.sub (by k_asm) (by k_extra "X my sub")))
        rw [WD.within_false hq' hf]
      · have okx := ok.1 _ h1
        have hf : d.entryWithin (4, y) = Wish.within 3 x y := by simp [WD.entryWithin, WD.get, h1, wishWithin]
        k_steps
        all_goals first
          | ((refine' ForPost.search (tl' := []) ?f1 ?f2 ?f3 ?f4 ?f5 ktn_ord0 ?f6 ?_; (case f2 => k_asm); (case f3 => k_asm); (case f1 => assumption); (case f4 => k_extra "X my sub"); (case f5 => assumption); (case f6 => (intro z hz; (simp only [List.contains_cons, List.contains_nil, Bool.or_false, Bool.or_eq_false_iff, beq_eq_false_iff_ne, ne_eq] at hz); (simp [hz]; done))))
             simp only [List.take_add_one, hq, List.all_append, hp, Option.toList_some, List.all_cons, List.all_nil, hf, Bool.true_and, Bool.and_true]
             first | assumption | simp_all)
          | ((refine' hret _ [] _ _ ?e1 (ktn_tl0 ?e2) ktn_ord0 ?_; (case e1 => k_asm); (case e2 => first | k_asm | exact News.sub (by k_asm) (by k_extra "X my sub")))
             rw [WD.within_false hq' (by rw [hf]; simp_all)])
    · obtain ⟨ky, ny, rfl, _⟩ := ok'.2 _ hy
      rcases hkv.get7 with ⟨h1, h2⟩ | ⟨x, xa, h1, h2, hX⟩
      · have hf : d.entryWithin (7, (.range (64 * ky) (64 * ky + ny))) = false := by simp [WD.entryWithin, WD.get, h1]
        k_steps
        (refine' hret _ [] _ _ ?e1 (ktn_tl0 ?e2) ktn_ord0 ?_; (case e1 => k_asm); (case e2 => first | k_asm | exact News.sub (by k_asm) (by k_extra "X my sub")))
        rw [WD.within_false hq' hf]
      · obtain ⟨kx, nx, rfl, _⟩ := ok.2 _ h1
        have hf : d.entryWithin (7, (.range (64 * ky) (64 * ky + ny))) = Wish.within 8 (.range (64 * kx) (64 * kx + nx)) (.range (64 * ky) (64 * ky + ny)) := by simp [WD.entryWithin, WD.get, h1, wishWithin]
        k_steps
        all_goals first
          | ((refine' ForPost.search (tl' := []) ?f1 ?f2 ?f3 ?f4 ?f5 ktn_ord0 ?f6 ?_; (case f2 => k_asm); (case f3 => k_asm); (case f1 => assumption); (case f4 => k_extra "X my sub"); (case f5 => assumption); (case f6 => (intro z hz; (simp only [List.contains_cons, List.contains_nil, Bool.or_false, Bool.or_eq_false_iff, beq_eq_false_iff_ne, ne_eq] at hz); (simp [hz]; done))))
             simp only [List.take_add_one, hq, List.all_append, hp, Option.toList_some, List.all_cons, List.all_nil, hf, Bool.true_and, Bool.and_true]
             first | assumption | simp_all)
          | ((refine' hret _ [] _ _ ?e1 (ktn_tl0 ?e2) ktn_ord0 ?_; (case e1 => k_asm); (case e2 => first | k_asm | exact News.sub (by k_asm) (by k_extra "X my sub")))
             rw [WD.within_false hq' (by rw [hf]; simp_all)])
  · intro tl u h tk hp ho F1 N1
    k_steps
    (refine' hret _ [] _ _ ?e1 (ktn_tl0 ?e2) ktn_ord0 ?_; (case e1 => k_asm); (case e2 => first | k_asm | exact News.sub (by k_asm) (by k_extra "X my sub")))
    rw [hA.length, List.take_length] at hp
    simp only [WD.within, Value.bool.injEq]
    exact hp.symm

theorem off_F20 : True := by
  k_with "off F20" => skip
  trivial
end
section
theorem anew_F21 : True := by
  w_top off
  trivial
theorem kw19 : True := by
  k_with "X exec For Name Call cons nil" => ((fail_if_success k_extra "off F21"); ((k_here; (rename Fr _ _ _ _ => lF'z72); (with_unfolding_all refine' for_range lF'z72 ?_))))
  k_with "X call ref" => ((fail_if_success k_extra "off F21"); ((k_here; (with_reducible show wpAny _ _ (call (Value.ref 177) _) _ _ _); k_dflt (refine' Says.use (is_rule_within_says ?h0z73 ?h1z73 ?h2z73 ?h3z73) ?kBz73 ?kFz73 ?kXz73 ?kNz73 ?kTz73 ?kKz73 ?kDz73 ?kUz73 ?_; (case kBz73 => k_asm); (case kFz73 => k_asm); (case kXz73 => k_asm); (case kNz73 => k_asm); (case kTz73 => k_asm); (case kKz73 => first | exact rfl | assumption); (case kDz73 => ktr_room); (case kUz73 => ktr_units)); ((case h0z73 => exact RuleIn.mono (by assumption) (by k_extra "X my sub")); (case h1z73 => exact RuleIn.mono (by assumption) (by k_extra "X my sub")); (case h2z73 => assumption); (case h3z73 => assumption)); intro r9z73 tl9z73 h9z73 tk9z73 F9z73 N9z73 o9z73 p9z73; (try replace p9z73 := TPost.get p9z73); (try dsimp only [List.nil_append, List.cons_append] at N9z73); (try simp only [List.nil_append, List.cons_append, List.append_nil, List.append_assoc] at N9z73); (try dsimp only [List.nil_append, List.cons_append] at p9z73); (try simp only [List.nil_append, List.cons_append, List.append_nil, List.append_assoc] at p9z73); (subst p9z73); (try dsimp only); (try k_fold))))
  trivial
inductive SJ (news : Led) (f : Addr) (ds : List WD) (m₀ : Str → Option Value) (i : Nat) (m : Str → Option Value) (nx : Led) : Prop
  | of9 : ∀ (vs : List Value) (k : Nat) (tl : Led), (∀ z, [Str.ofString "place", Str.ofString "elder"].contains z = false → m z = m₀ z) → (nx = (f, listOf vs.toArray k) :: (news ++ tl)) → (∀ p ∈ news ++ tl, p.1 ≠ f) → (Above news tl) → (All2 (PairIn (news ++ tl)) vs (shUpto ds i)) → (vs.length ≤ i) → SJ news f ds m₀ i m nx
theorem shadowed_says {w : World} {news : Led} {v : Value} {ds : List WD} {act : Str} (ha : ListIn (RuleIn w act) news v ds) (ok : ∀ d ∈ ds, WD.ok d) (hsh : ds.length ≤ 64) :
   Says w 184 7 128 news [v] (fun l r => ListIn PairIn l r (shUpto ds ds.length)) := by
  obtain ⟨a, n, vs, rfl, hm, hA⟩ := ha
  have hvl := hA.length
  have hvl2 : vs.length ≤ 64 := by omega
  (unfold Says; intro mean mg mb dp un gd cn cs a ccd cl outer A₀ base h₀ L m s Q E B F X N T hk hd hu hret; refine wpAny_call ?_; k_dflt ktr_enter)
  k_steps
  rename ∀ (p : Addr × Obj), p ∈ news → _ => l9
  rename News _ _ _ (_ :: news) => N9
  refine ForSrcR.mk (n := vs.length) (SJ news _ ds _) (by assumption) (small_one (by decide) (by decide) (by omega) (by omega)) (by rw [rangeSize_nat]; omega) rfl (by assumption) N9 ⟨[], 0, [], fun _ _ => rfl, congrArg (_ :: ·) (List.append_nil _).symm, (fun p hp => by rw [List.append_nil] at hp; exact Nat.ne_of_lt (l9 p hp)), ktn_ord0, .nil, Nat.le_refl _⟩ ?_ ?_
  · rintro i tv m nx h tk I oI hi ⟨fs, k, tl, hm1, rfl, hne, hab, hF, hfl⟩ off F1 N1
    obtain ⟨pv, pd, hpv, hpd, hpR⟩ := hA.at hi
    have okp := ok _ (List.mem_of_getElem? hpd)
    have F2 := frame_eq hm1 F1
    clear F1
    k_steps
    refine ForSrcR.search (n := i) [Str.ofString "elder"] (fun j => ∀ e, e < j → (dAt ds i).within (dAt ds e) = false) (by assumption) (small_one (by decide) (by decide) (by omega) (by omega)) (by rw [rangeSize_nat]; omega) rfl (by assumption) (by assumption) (fun e he => absurd he (Nat.not_lt_zero _)) ?_ ?_
    · intro j tj tl2 u h2 tk2 I2 oI2 hj hp ho2 off2 F3 N3
      obtain ⟨qv, qd, hqv, hqd, hqR⟩ := hA.at (Nat.lt_trans hj hi)
      have okq := ok _ (List.mem_of_getElem? hqd)
      have eP := dAt_of hpd
      have eQ := dAt_of hqd
      k_steps
      · have hw : pd.within qd = true := by assumption
        rename Led => T9
        rename _ ∧ _ ∧ _ ∧ AllLt _ _ => l8
        rename News _ _ _ (_ :: _ :: _ :: _ :: (news ++ _)) => N9
        obtain ⟨D9, eD⟩ := name_led N9
        subst eD
        simp only [List.push_toArray] at N9
        have o9 : Above (news ++ tl) (tl2 ++ T9) := ord_app (ord_sub ho2 (by k_extra "X my sub")) (ord_sub (by assumption) (by k_extra "X my sub"))
        refine' ForPost.mk (by k_asm) N9 ?g1 ?g2 ⟨fs ++ [Value.ref D9], k + 1, tl ++ (tl2 ++ (T9 ++ [(D9, tupO [Value.int (0 + (i : Int)) tv, Value.int (0 + (j : Int)) tj] 0)])), ?g3, rfl, ?g4, ?g5, ?g6, ?g7⟩
        case g1 => k_extra "X my sub"
        case g2 => k_extra "X my ne"
        case g3 =>
          intro z hz
          have h1 : z ≠ Str.ofString "elder" := by rintro rfl; simp at hz
          have h2 : z ≠ Str.ofString "place" := by rintro rfl; simp at hz
          simp [h1, h2]
        case g4 => k_extra "X my ne"
        case g5 => k_extra "X my ord"
        case g6 =>
          have hel : elderOf ds i = some j := find_hit hp hj (by rw [eP, eQ]; exact hw)
          have hone : shOne ds i = [((i : Int), (j : Int))] := by unfold shOne; rw [hel]
          rw [shUpto_succ, hone]
          refine (hF.imp fun _ _ x => PairIn.mono x (by k_extra "X my sub")).append (.cons ?_ .nil)
          have e3 : ((i : Int), (j : Int)) = (0 + (i : Int), 0 + (j : Int)) := by simp
          rw [e3]
          exact PairIn.mk (by k_mem)
        case g7 => simp; omega
      · have hw : pd.within qd = false := by first | assumption | simpa using (by assumption : ¬ pd.within qd = true)
        (refine' ForPost.search (tl' := []) ?f1 ?f2 ?f3 ?f4 ?f5 ktn_ord0 ?f6 ?_; (case f2 => k_asm); (case f3 => k_asm); (case f1 => assumption); (case f4 => k_extra "X my sub"); (case f5 => assumption); (case f6 => (intro z hz; (simp only [List.contains_cons, List.contains_nil, Bool.or_false, Bool.or_eq_false_iff, beq_eq_false_iff_ne, ne_eq] at hz); (simp [hz]; done))))
        intro e he
        rcases Nat.lt_succ_iff_lt_or_eq.mp he with he | rfl
        · exact hp e he
        · rw [eP, eQ]; exact hw
    · intro tl2 u h2 tk2 hp ho2 F3 N3
      k_steps
      refine' ForPost.mk (by k_asm) N3 ?i1 ?i2 ⟨fs, k, tl ++ tl2, ?i3, rfl, ?i4, ?i5, ?i6, ?i7⟩
      case i1 => k_extra "X my sub"
      case i2 => k_extra "X my ne"
      case i3 =>
          intro z hz
          have h1 : z ≠ Str.ofString "elder" := by rintro rfl; simp at hz
          have h2 : z ≠ Str.ofString "place" := by rintro rfl; simp at hz
          simp [h1, h2]
      case i4 => k_extra "X my ne"
      case i5 => k_extra "X my ord"
      case i6 =>
          have hel : elderOf ds i = none := find_miss hp
          have hone : shOne ds i = [] := by unfold shOne; rw [hel]
          rw [shUpto_succ, hone, List.append_nil]
          exact (hF.imp fun _ _ x => PairIn.mono x (by k_extra "X my sub"))
      case i7 => omega
  · rintro m nx h tk ⟨fs, k, tl, hm1, rfl, hne, hab, hF, hfl⟩ F1 N1
    have F2 := frame_eq hm1 F1
    clear F1
    k_steps
    (refine' hret _ ((_, listOf fs.toArray k) :: tl) _ _ ?e1 ?e2 ?e3 ?_; (case e1 => k_asm); (case e2 => exact News.sub (by k_asm) (by k_extra "X my sub")); (case e3 => k_extra "X my ord"))
    rw [hvl] at hF
    exact ⟨_, k, fs, rfl, by k_mem, hF.imp fun _ _ x => PairIn.mono x (by k_extra "X my sub")⟩

theorem off_F21 : True := by
  k_with "off F21" => skip
  trivial
end
section
theorem anew_F22 : True := by
  w_top off
  trivial
theorem law_is_within_says {w : World} {news : Led} {v v' : Value} {l l' : Lots} (ha : LotIn news v l) (hb : LotIn news v' l') (h1 : ∀ i, (lotOf l i).length ≤ 256) :
   Says w 244 2 200 news [v, v'] (fun _ r => r = .bool (lotsWithin l l')) := by
  obtain ⟨a, n, vs, rfl, hm, hl, hat⟩ := ha.at
  obtain ⟨b, n', vs', rfl, hm', hl', hat'⟩ := hb.at
  (unfold Says; intro mean mg mb dp un gd cn cs a ccd cl outer A₀ base h₀ L m s Q E B F X N T hk hd hu hret; refine wpAny_call ?_; k_dflt (refine' code_defC ?k1 ?k2 ?k3 ?k4 ?k5 ?kA ?kF ?kK ?k6 ?k7 ?k8 ?k9 ?kB ?kD ?_ ?c2 ?c3 ?c4; (case kA => exact rfl); (case kF => exact rfl); (case kK => assumption); (case k1 => k_asm); (case k2 => k_asm); (case k3 => k_asm); (case k4 => k_asm); (case k5 => k_asm); (case k6 => k_is); (case k7 => k_is); (case k8 => ktr_room); (case k9 => exact BindsTo.of_eq rfl); (case kB => exact rfl); (case kD => decide +kernel); (case c2 => exact rfl); (case c3 => exact rfl); (case c4 => exact rfl); k_whole; intro g' L' h' tk' cells' FG' F' N' Y' B' X' T' l1; (have l1a := lt_plus 1 l1); (have l1b := lt_plus 2 l1); (have l1c := lt_plus 3 l1); (have l1d := lt_plus 4 l1); k_cells Y'; (try simp only [List.cons_append, List.nil_append] at N'); (try dsimp only); (try k_lift B'); (try k_fold)))
  k_steps
  refine CSrc.rangeX (x := Str.ofString "at") (n := 2) (fun i ys _ => ys.length ≤ i ∧ IntsAre ys ((upto i).filter fun j => lotsIn l l' j.toNat)) (by assumption) (small_one (by decide) (by decide) (by decide) (by decide)) (by decide) rfl (by assumption) (by assumption) (by intros; rfl) (by intros; rfl) (by intro g h; cases h) ⟨Nat.le_refl _, .nil⟩ ?_ ?_
  · intro i tv ys tl h tk I oI oC oc z C D c mC hi hp ho b3 bc hz off offc tr F1 hC1 N1
    obtain ⟨x, kx, xs, hx, hxm, hxi⟩ := hat i hi
    obtain ⟨y, ky, ys', hy, hym, hyi⟩ := hat' i hi
    refine CTurn.filterX rfl rfl tr off offc hz F1 N1 ?_
    intro h2 oc2 tk2 E2 hz2 F2 off2 N2
    have h1i := h1 i
    have hxl := hxi.length
    obtain ⟨nA, eA⟩ : ∃ nA, nA = lotOf l i := ⟨_, rfl⟩
    obtain ⟨nB, eB⟩ : ∃ nB, nB = lotOf l' i := ⟨_, rfl⟩
    rw [← eA] at hxi hxl h1i
    rw [← eB] at hyi
    have hli : lotsIn l l' i = (without nA nB != []) := by rw [eA, eB]; rfl
    clear eA eB
    k_steps
    refine' CSrc.list (fun j ys _ => ys.length ≤ j ∧ IntsAre ys (without (nA.take j) nB)) ?hm rfl (by assumption) (by assumption) (by decide) rfl (by intro g h; cases h) ⟨Nat.le_refl _, .nil⟩ ?_ ?_
    case hm => k_mem
    · intro j v2 ys2 tl2 h3 tk3 I3 oI3 oC3 C3 D3 mC3 hv3 hp3 ho3 b33 off3 tr3 F3 hC3 N3
      obtain ⟨n3, tn3, rfl, hn3⟩ := IntsAre_get hxi hv3
      refine CTurn.filter rfl rfl tr3 off3 F3 hC3 N3 ?_
      intro h4 oC4 mC4 tk4 E4 F4 hC4 hx4 N4
      (repeat' ((fail_if_success (with_reducible show CEnd _ _ _ _ _ _ _ _ _ _)); (fail_if_success (with_reducible show CEndY _ _ _ _ _ _ _ _ _ _ _)); first | (k_unfold; (try dsimp only)) | (k_end; kc_close) | walk1 | (dsimp only; walk1) | (leave1; walk_say "STEP leave1"; (try dsimp only)) | fail "no step"))
      all_goals first
        | ((refine' CEndY.mk (tl' := []) ?c1 ?c2 ?c3 ?c4 ?c5 ?c6 ktn_ord0 ?c7 ?_; (case c1 => k_asm); (case c2 => assumption); (case c3 => k_asm); (case c5 => assumption); (case c6 => assumption); (case c4 => k_extra "X my sub"))
           case c7 => rw [sizeLine_eq]; have := (List.getElem?_eq_some_iff.mp hn3).1; omega
           have e : (nB.any fun x => x == n3) = false := by first | assumption | simpa using (by assumption : ¬ (nB.any fun x => x == n3) = true)
           refine ⟨by simp; omega, ?_⟩
           unfold without
           rw [filter_take_snoc _ hn3]
           simp only [e, if_true, Bool.not_false]
           exact IntsAre_snoc hp3.2)
        | ((refine' CEnd.mk (tl' := []) ?c1 ?c2 ?c3 ?c4 ?c5 ?c6 ktn_ord0 ?_; (case c1 => k_asm); (case c2 => assumption); (case c3 => k_asm); (case c5 => assumption); (case c6 => assumption); (case c4 => k_extra "X my sub"))
           have e : (nB.any fun x => x == n3) = true := by first | assumption | simpa using (by assumption : ¬ (nB.any fun x => x == n3) = false)
           refine ⟨by omega, ?_⟩
           unfold without
           rw [filter_take_snoc _ hn3]
           simp only [e, Bool.false_eq_true, if_false, List.append_nil, Bool.not_true]
           exact hp3.2)
    · intro D2 ys2 tl2 h3 tk3 hp3 ho3 hD3 h4 F4 N4
      obtain ⟨hp1, hp2⟩ := hp3
      rw [hxl, List.take_length] at hp2
      k_steps
      all_goals first
        | ((refine' CEndY.mkX (tl' := []) ?c1 ?c2 ?c3 ?c4 ?c5 ?c6 ?cz ?c8 ktn_ord0 ?c7 ?_; (case c1 => k_asm); (case c2 => assumption); (case c3 => k_asm); (case c5 => assumption); (case c6 => assumption); (case cz => assumption); (case c8 => assumption); (case c4 => k_extra "X my sub"))
           case c7 => rw [sizeLine_eq]; omega
           have e : lotsIn l l' i = true := by rw [hli]; simp_all
           refine ⟨by simp; omega, ?_⟩
           rw [upto_succ, List.filter_append, Int.zero_add]
           simp only [List.filter_cons, Int.toNat_natCast, e, if_true, List.filter_nil]
           exact IntsAre_snoc hp.2)
        | ((refine' CEnd.mkX (tl' := []) ?c1 ?c2 ?c3 ?c4 ?c5 ?c6 ?cz ?c8 ktn_ord0 ?_; (case c1 => k_asm); (case c2 => assumption); (case c3 => k_asm); (case c5 => assumption); (case c6 => assumption); (case cz => assumption); (case c8 => assumption); (case c4 => k_extra "X my sub"))
           have e : lotsIn l l' i = false := by rw [hli]; simp_all
           refine ⟨by omega, ?_⟩
           rw [upto_succ, List.filter_append]
           simp only [List.filter_cons, Int.toNat_natCast, e, Bool.false_eq_true, if_false, List.filter_nil, List.append_nil]
           exact hp.2)
  · intro D ys tl h tk hp ho hD h2 F2 N2
    obtain ⟨hp1, hp2⟩ := hp
    k_steps
    (refine' hret _ [] _ _ ?e1 (ktn_tl0 ?e2) ktn_ord0 ?_; (case e1 => k_asm); (case e2 => first | k_asm | exact News.sub (by k_asm) (by k_extra "X my sub")))
    exact congrArg Value.bool (beq_dec _ _).symm

theorem off_F22 : True := by
  k_with "off F22" => skip
  trivial
end
section
theorem anew_F23 : True := by
  w_top off
  trivial
theorem rule_let {w : World} {news n0 : Led} {v : Value} {d : WD} {t : Tok} (hd : DictIn w n0 v d) (hn0 : ∀ p ∈ n0, p ∈ news) (ok : WD.ok d) :
   Says w 117 4 64 news [.str (Str.ofString "let") t, v] (TPost news n0 fun l r => RuleIn w (Str.ofString "let") l r d) := rule_new (.inl rfl) hd hn0 ok.g
theorem kw20 : True := by
  k_with "X call ref" => ((fail_if_success k_extra "off F23"); ((k_here; (with_reducible show wpAny _ _ (call (Value.ref 117) _) _ _ _); k_dflt (refine' Says.use (rule_let ?h0z74 ?hsz74 ?h1z74) ?kBz74 ?kFz74 ?kXz74 ?kNz74 ?kTz74 ?kKz74 ?kDz74 ?kUz74 ?_; (case kBz74 => k_asm); (case kFz74 => k_asm); (case kXz74 => k_asm); (case kNz74 => k_asm); (case kTz74 => k_asm); (case kKz74 => first | exact rfl | assumption); (case kDz74 => ktr_room); (case kUz74 => ktr_units)); ((case h0z74 => assumption); (case hsz74 => k_extra "X my sub"); (case h1z74 => assumption)); intro r9z74 tl9z74 h9z74 tk9z74 F9z74 N9z74 o9z74 p9z74; (try replace p9z74 := TPost.get p9z74); (try dsimp only [List.nil_append, List.cons_append] at N9z74); (try simp only [List.nil_append, List.cons_append, List.append_nil, List.append_assoc] at N9z74); (try dsimp only [List.nil_append, List.cons_append] at p9z74); (try simp only [List.nil_append, List.cons_append, List.append_nil, List.append_assoc] at p9z74); (revert p9z74; with_reducible apply RuleIn.imp; intro c9z74 p9z74; clear r9z74); (try dsimp only); (try k_fold))))
  k_with "X call ref" => ((fail_if_success k_extra "off F23"); ((k_here; (with_reducible show wpAny _ _ (call (Value.ref 239) _) _ _ _); k_dflt (refine' Says.use (lots_says ?h0z75) ?kBz75 ?kFz75 ?kXz75 ?kNz75 ?kTz75 ?kKz75 ?kDz75 ?kUz75 ?_; (case kBz75 => k_asm); (case kFz75 => k_asm); (case kXz75 => k_asm); (case kNz75 => k_asm); (case kTz75 => k_asm); (case kKz75 => first | exact rfl | assumption); (case kDz75 => ktr_room); (case kUz75 => ktr_units)); (case h0z75 => exact DictIn.mono (by assumption) (by k_extra "X my sub")); intro r9z75 tl9z75 h9z75 tk9z75 F9z75 N9z75 o9z75 p9z75; (try replace p9z75 := TPost.get p9z75); (try dsimp only [List.nil_append, List.cons_append] at N9z75); (try simp only [List.nil_append, List.cons_append, List.append_nil, List.append_assoc] at N9z75); (try dsimp only [List.nil_append, List.cons_append] at p9z75); (try simp only [List.nil_append, List.cons_append, List.append_nil, List.append_assoc] at p9z75); (revert p9z75; with_reducible apply LotIn.imp; intro c9z75 p9z75; clear r9z75); (try dsimp only); (try k_fold))))
  k_with "X exec For Name Call cons nil" => ((fail_if_success k_extra "off F23"); ((k_here; (rename Fr _ _ _ _ => lF'z76); (with_unfolding_all refine' for_range lF'z76 ?_))))
  k_with "X call ref" => ((fail_if_success k_extra "off F23"); ((k_here; (with_reducible show wpAny _ _ (call (Value.ref 244) _) _ _ _); k_dflt (refine' Says.use (law_is_within_says ?h0z77 ?h1z77 ?h2z77) ?kBz77 ?kFz77 ?kXz77 ?kNz77 ?kTz77 ?kKz77 ?kDz77 ?kUz77 ?_; (case kBz77 => k_asm); (case kFz77 => k_asm); (case kXz77 => k_asm); (case kNz77 => k_asm); (case kTz77 => k_asm); (case kKz77 => first | exact rfl | assumption); (case kDz77 => ktr_room); (case kUz77 => ktr_units)); ((case h0z77 => exact LotIn.mono (by assumption) (by k_extra "X my sub")); (case h1z77 => exact LotIn.mono (by assumption) (by k_extra "X my sub")); (case h2z77 => assumption)); intro r9z77 tl9z77 h9z77 tk9z77 F9z77 N9z77 o9z77 p9z77; (try replace p9z77 := TPost.get p9z77); (try dsimp only [List.nil_append, List.cons_append] at N9z77); (try simp only [List.nil_append, List.cons_append, List.append_nil, List.append_assoc] at N9z77); (try dsimp only [List.nil_append, List.cons_append] at p9z77); (try simp only [List.nil_append, List.cons_append, List.append_nil, List.append_assoc] at p9z77); (subst p9z77); (try dsimp only); (try k_fold))))
  k_with "X call ref" => ((fail_if_success k_extra "off F23"); ((k_here; (with_reducible show wpAny _ _ (call (Value.ref 184) _) _ _ _); k_dflt (refine' Says.use (shadowed_says ?h0z78 ?h1z78 ?h2z78) ?kBz78 ?kFz78 ?kXz78 ?kNz78 ?kTz78 ?kKz78 ?kDz78 ?kUz78 ?_; (case kBz78 => k_asm); (case kFz78 => k_asm); (case kXz78 => k_asm); (case kNz78 => k_asm); (case kTz78 => k_asm); (case kKz78 => first | exact rfl | assumption); (case kDz78 => ktr_room); (case kUz78 => ktr_units)); ((case h0z78 => assumption); (case h1z78 => assumption); (case h2z78 => omega)); intro r9z78 tl9z78 h9z78 tk9z78 F9z78 N9z78 o9z78 p9z78; (try replace p9z78 := TPost.get p9z78); (try dsimp only [List.nil_append, List.cons_append] at N9z78); (try simp only [List.nil_append, List.cons_append, List.append_nil, List.append_assoc] at N9z78); (try dsimp only [List.nil_append, List.cons_append] at p9z78); (try simp only [List.nil_append, List.cons_append, List.append_nil, List.append_assoc] at p9z78); (have p8z78 := p9z78; obtain ⟨_, _, _, e9z78, _, _⟩ := p8z78; subst e9z78); (try dsimp only); (try k_fold))))
  trivial
theorem shadows_right_says {w : World} {news : Led} {v : Value} {ds : List WD} (ha : ListIn (DictIn w) news v ds) (ok : ∀ d ∈ ds, WD.ok d) (hsh : ds.length ≤ 8) :
   Says w 256 9 300 news [v] (fun _ r => r = .bool true) := by
  refine hideG fun hG9 kG9 => ?_
  obtain ⟨ra, n, vs, rfl, hm, hA⟩ := ha
  refine kG9 ?_
  clear kG9 hG9
  have hvl := hA.length
  have hvl2 : vs.length ≤ 8 := by omega
  (unfold Says; intro mean mg mb dp un gd cn cs a ccd cl outer A₀ base h₀ L m s Q E B F X N T hk hd hu hret; refine wpAny_call ?_; k_dflt (refine' code_defC ?k1 ?k2 ?k3 ?k4 ?k5 ?kA ?kF ?kK ?k6 ?k7 ?k8 ?k9 ?kB ?kD ?_ ?c2 ?c3 ?c4; (case kA => exact rfl); (case kF => exact rfl); (case kK => assumption); (case k1 => k_asm); (case k2 => k_asm); (case k3 => k_asm); (case k4 => k_asm); (case k5 => k_asm); (case k6 => k_is); (case k7 => k_is); (case k8 => ktr_room); (case k9 => exact BindsTo.of_eq rfl); (case kB => exact rfl); (case kD => decide +kernel); (case c2 => exact rfl); (case c3 => exact rfl); (case c4 => exact rfl); k_whole; intro g' L' h' tk' cells' FG' F' N' Y' B' X' T' l1; (have l1a := lt_plus 1 l1); (have l1b := lt_plus 2 l1); (have l1c := lt_plus 3 l1); (have l1d := lt_plus 4 l1); k_cells Y'; (try simp only [List.cons_append, List.nil_append] at N'); (try dsimp only); (try k_lift B'); (try k_fold)))
  k_steps
  refine' CSrc.list (fun i ys l => ys.length ≤ i ∧ All2 (RuleIn w (Str.ofString "let") l) ys (ds.take i)) ?hm rfl (by assumption) (by assumption) (by decide) rfl (by intro g h; cases h) ⟨Nat.le_refl _, .nil⟩ ?_ ?_
  case hm => k_mem
  · intro i v ys tl h tk I oI oC C D mC hv hp ho b3 off tr F1 hC1 N1
    refine hideG fun hG9 kG9 => ?_
    obtain ⟨d, hq, hR⟩ := hA.get hv
    refine kG9 ?_
    clear kG9 hG9
    refine hideG fun hG9 kG9 => ?_
    obtain ⟨_, _, _, rfl, _⟩ := id hR
    refine kG9 ?_
    clear kG9 hG9
    have okd := ok _ (List.mem_of_getElem? hq)
    refine CTurn.map rfl rfl tr off F1 hC1 N1 ?_
    intro h2 oC2 mC2 tk2 E2 F2 hC2 hx N2
    (repeat' ((fail_if_success (with_reducible show CEnd _ _ _ _ _ _ _ _ _ _)); (fail_if_success (with_reducible show CEndY _ _ _ _ _ _ _ _ _ _ _)); first | (k_unfold; (try dsimp only)) | (k_end; kc_close) | walk1 | (dsimp only; walk1) | (leave1; walk_say "STEP leave1"; (try dsimp only)) | fail "no step"))
    rename Led => T9
    (refine' CEndY.mk (tl' := T9) ?c1 ?c2 ?c3 ?c4 ?c5 ?c6 ?c8 ?c7 ?_; (case c1 => k_asm); (case c2 => assumption); (case c3 => k_asm); (case c5 => assumption); (case c6 => assumption); (case c4 => k_extra "X my sub"); (case c8 => k_extra "X my ord"))
    case c7 =>
      have := (List.getElem?_eq_some_iff.mp hv).1
      rw [sizeLine_eq]; omega
    · refine ⟨by simp; omega, ?_⟩
      rw [List.take_add_one, hq]
      exact (hp.2.imp fun _ _ h => h.mono (by k_extra "X my sub")).append (.cons (RuleIn.mono (by assumption) (by k_extra "X my sub")) .nil)
  · intro D ys tl h tk hp ho hD h2 tk2 F2 N2
    obtain ⟨hp1, hp2⟩ := hp
    rw [hvl, List.take_length] at hp2
    simp only [List.cons_append, List.append_assoc] at N2
    k_steps
    refine' CSrc.list (fun i ys l => ys.length ≤ i ∧ All2 (fun v d => LotIn l v (WD.lots d)) ys (ds.take i)) ?hm2 rfl (by assumption) (by assumption) (by decide) rfl (by intro g h; cases h) ⟨Nat.le_refl _, .nil⟩ ?_ ?_
    case hm2 => k_mem
    · intro i v ys2 tl2 h3 tk3 I oI oC C D2 mC hv hp ho2 b3 off tr F3 hC3 N3
      refine hideG fun hG9 kG9 => ?_
      obtain ⟨d, hq, hR⟩ := hA.get hv
      refine kG9 ?_
      clear kG9 hG9
      refine hideG fun hG9 kG9 => ?_
      obtain ⟨_, _, _, rfl, _⟩ := id hR
      refine kG9 ?_
      clear kG9 hG9
      refine CTurn.map rfl rfl tr off F3 hC3 N3 ?_
      intro h4 oC4 mC4 tk4 E4 F4 hC4 hx N4
      (repeat' ((fail_if_success (with_reducible show CEnd _ _ _ _ _ _ _ _ _ _)); (fail_if_success (with_reducible show CEndY _ _ _ _ _ _ _ _ _ _ _)); first | (k_unfold; (try dsimp only)) | (k_end; kc_close) | walk1 | (dsimp only; walk1) | (leave1; walk_say "STEP leave1"; (try dsimp only)) | fail "no step"))
      rename Led => T9
      (refine' CEndY.mk (tl' := T9) ?c1 ?c2 ?c3 ?c4 ?c5 ?c6 ?c8 ?c7 ?_; (case c1 => k_asm); (case c2 => assumption); (case c3 => k_asm); (case c5 => assumption); (case c6 => assumption); (case c4 => k_extra "X my sub"); (case c8 => k_extra "X my ord"))
      case c7 =>
        have := (List.getElem?_eq_some_iff.mp hv).1
        rw [sizeLine_eq]; omega
      · refine ⟨by simp; omega, ?_⟩
        rw [List.take_add_one, hq]
        exact (hp.2.imp fun _ _ h => h.mono (by k_extra "X my sub")).append (.cons (LotIn.mono (by assumption) (by k_extra "X my sub")) .nil)
    · intro D2 ys2 tl2 h3 tk3 hp ho2 hD2 h4 F3 N3
      obtain ⟨hq1, hq2⟩ := hp
      rw [hvl, List.take_length] at hq2
      simp only [List.cons_append, List.append_assoc] at N3
      k_steps
      rename News _ _ _ (_ :: _ :: (D2, _) :: (D, _) :: _) => N9
      refine hideG fun hG9 kG9 => ?_
      obtain ⟨l9, p1, p2, p3, e1, e2, e3, e4⟩ := name_cells N9
      subst e1 e2 e3 e4
      refine kG9 ?_
      clear kG9 hG9
      rename Fr _ _ _ _ => F9
      obtain ⟨M0, eM⟩ := name_fr F9
      have F9' : Fr _ _ _ M0 := eM ▸ F9
      have mRul : M0 (Str.ofString "rules") = some (.ref D) := by rw [eM]; rfl
      have mDue : M0 (Str.ofString "due") = some (.ref l9) := by rw [eM]; rfl
      have dp3 : p3.data = .cell (some (.ref ra)) := by assumption
      have dp1 : p1.data = .cell none := by assumption
      clear eM
      refine ForSrcR.mk (n := vs.length) (nx₀ := (L' + 1 + 1 + 1, p1) :: (((l9, listOf (List.toArray []) 0) :: (D2, lst ys2) :: (D, lst ys) :: (L' + 1 + 1, p2) :: (L' + 1, p3) :: (news ++ (tl ++ tl2))) ++ []))
        (EJ (L' + 1 + 1 + 1) ((l9, listOf (List.toArray []) 0) :: (D2, lst ys2) :: (D, lst ys) :: (L' + 1 + 1, p2) :: (L' + 1, p3) :: (news ++ (tl ++ tl2))) ds M0)
        (by assumption) (small_one (by decide) (by decide) (by omega) (by omega)) (by rw [rangeSize_nat]; omega) rfl F9' (News.sub N9 (by k_extra "X my sub"))
        ⟨_, _, _, 0, [], [], rfl, dp1, ?je1, ktn_ord0, mDue, .head _, .nil, Nat.le_refl _, fun _ _ _ => rfl⟩ ?_ ?_
      case je1 =>
        simp only [List.append_nil]
        k_extra "X my ne"
      · have mD2 : (D2, lst ys2) ∈ ((l9, listOf (List.toArray []) 0) :: (D2, lst ys2) :: (D, lst ys) :: (L' + 1 + 1, p2) :: (L' + 1, p3) :: (news ++ (tl ++ tl2))) := by k_mem
        have mp2 : (L' + 1 + 1, p2) ∈ ((l9, listOf (List.toArray []) 0) :: (D2, lst ys2) :: (D, lst ys) :: (L' + 1 + 1, p2) :: (L' + 1, p3) :: (news ++ (tl ++ tl2))) := by k_mem
        have mp3 : (L' + 1, p3) ∈ ((l9, listOf (List.toArray []) 0) :: (D2, lst ys2) :: (D, lst ys) :: (L' + 1 + 1, p2) :: (L' + 1, p3) :: (news ++ (tl ++ tl2))) := by k_mem
        have mvs : (_, listOf vs.toArray n) ∈ ((l9, listOf (List.toArray []) 0) :: (D2, lst ys2) :: (D, lst ys) :: (L' + 1 + 1, p2) :: (L' + 1, p3) :: (news ++ (tl ++ tl2))) := mem_sub hm (by k_extra "X my sub")
        have kA : All2 (DictIn w ((l9, listOf (List.toArray []) 0) :: (D2, lst ys2) :: (D, lst ys) :: (L' + 1 + 1, p2) :: (L' + 1, p3) :: (news ++ (tl ++ tl2)))) vs ds := hA.imp fun _ _ x => DictIn.mono x (by k_extra "X my sub")
        have kQ : All2 (fun v d => LotIn ((l9, listOf (List.toArray []) 0) :: (D2, lst ys2) :: (D, lst ys) :: (L' + 1 + 1, p2) :: (L' + 1, p3) :: (news ++ (tl ++ tl2))) v (WD.lots d)) ys2 ds := hq2.imp fun _ _ x => LotIn.monoC x (by k_extra "X my subC")
        generalize hNX : ((l9, listOf (List.toArray []) 0) :: (D2, lst ys2) :: (D, lst ys) :: (L' + 1 + 1, p2) :: (L' + 1, p3) :: (news ++ (tl ++ tl2))) = NX at *
        clear hp2 hq2 hD hD2 ho ho2 hA hm l1 l1a l1b l1c l1d N9 hNX F9 F9'
        intro i tv m nx h5 tk5 I oI hi hp98 off N1 N2
        refine hideG fun hG9 kG9 => ?_
        obtain ⟨oP, z, dA, wsn, ws, tl5, rfl, hz, hne, hab, hdue, hdm, hdA, hdl, hm1⟩ := hp98
        refine kG9 ?_
        clear kG9 hG9
        have F5 := frame_ps [(Str.ofString "due", .ref dA)] [Str.ofString "elder"] (by simpa using hdue) (by intro z h2 h3; exact hm1 z (by rintro rfl; simp at h3) (h2 _ (.head _))) N1
        clear N1
        refine hideG fun hG9 kG9 => ?_
        obtain ⟨pv, pd, hpv, hpd, hpR⟩ := kA.at hi
        refine kG9 ?_
        clear kG9 hG9
        refine hideG fun hG9 kG9 => ?_
        obtain ⟨pa, po, pkvs, rfl, hpm, hps, hpo, hpk⟩ := hpR
        refine kG9 ?_
        clear kG9 hG9
        have eP := dAt_of hpd
        k_steps
        refine CSrc.range (n := i) (fun j ys _ => ys.length ≤ j ∧ IntsAre ys (natInts ((List.range j).filter fun e => fieldsIn (dAt ds e) (dAt ds i)))) (by assumption) (small_one (by decide) (by decide) (by omega) (by omega)) (by rw [rangeSize_nat]; omega) rfl (by assumption) (by assumption) (by decide) rfl (by intro g h; cases h) ⟨Nat.le_refl _, .nil⟩ ?_ ?_
        · intro j tj ys6 tl6 h6 tk6 I6 oI6 oC6 C6 D6 mC6 hj hp6 ho6 b36 off6 tr6 F6 hC6 N6
          refine hideG fun hG9 kG9 => ?_
          obtain ⟨qv, qd, hqv, hqd, hqR⟩ := kA.at (Nat.lt_trans hj hi)
          refine kG9 ?_
          clear kG9 hG9
          refine hideG fun hG9 kG9 => ?_
          obtain ⟨qa, qo, qkvs, rfl, hqm, hqs, hqo, hqk⟩ := hqR
          refine kG9 ?_
          clear kG9 hG9
          have eQ := dAt_of hqd
          refine CTurn.filter rfl rfl tr6 off6 F6 hC6 N6 ?_
          intro h7 oC7 mC7 tk7 E7 F7 hC7 hx7 N7
          (repeat' ((fail_if_success (with_reducible show CEnd _ _ _ _ _ _ _ _ _ _)); (fail_if_success (with_reducible show CEndY _ _ _ _ _ _ _ _ _ _ _)); first | (k_unfold; (try dsimp only)) | (k_end; kc_close) | walk1 | (dsimp only; walk1) | (leave1; walk_say "STEP leave1"; (try dsimp only)) | fail "no step"))
          refine CSrc.dict (kvs := qkvs) (fun k ys _ => ys.length ≤ k ∧ IntsAre ys (((keysOf qd).take k).filter fun x => !((keysOf pd).any (· == x)))) ?hm6 hqs hqo rfl (by assumption) (by assumption) (by decide) rfl (by intro g h; cases h) ⟨Nat.le_refl _, .nil⟩ ?_ ?_
          case hm6 => k_mem
          · intro k kk kx tk ys8 tl8 h8 tk8 I8 oI8 oC8 C8 D8 mC8 hk8 hp8 ho8 b38 off8 tr8 F8 hC8 N8
            have hkk : (keysOf qd)[k]? = some kk := by rw [← hqk.keys, List.getElem?_map, hk8]; rfl
            have hhas := hpk.has kk
            obtain ⟨bb, ebb⟩ : ∃ bb, bb = (keysOf pd).any (· == kk) := ⟨_, rfl⟩
            rw [← ebb] at hhas
            refine CTurn.filter rfl rfl tr8 off8 F8 hC8 N8 ?_
            intro h9 oC9 mC9 tk9 E9 F9 hC9 hx9 N9
            cases bb
            · (repeat' ((fail_if_success (with_reducible show CEnd _ _ _ _ _ _ _ _ _ _)); (fail_if_success (with_reducible show CEndY _ _ _ _ _ _ _ _ _ _ _)); first | (k_unfold; (try dsimp only)) | (k_end; kc_close) | walk1 | (dsimp only; walk1) | (leave1; walk_say "STEP leave1"; (try dsimp only)) | fail "no step"))
              (refine' CEndY.mk (tl' := []) ?c1 ?c2 ?c3 ?c4 ?c5 ?c6 ktn_ord0 ?c7 ?_; (case c1 => k_asm); (case c2 => assumption); (case c3 => k_asm); (case c5 => assumption); (case c6 => assumption); (case c4 => k_extra "X my sub"))
              case c7 => rw [sizeLine_eq]; have := (List.getElem?_eq_some_iff.mp hk8).1; have := hpk.len; have := hqk.len; omega
              refine ⟨by simp; omega, ?_⟩
              rw [filter_take_snoc _ hkk]
              simp only [← ebb, if_true, Bool.not_false]
              exact IntsAre_snoc hp8.2
            · (repeat' ((fail_if_success (with_reducible show CEnd _ _ _ _ _ _ _ _ _ _)); (fail_if_success (with_reducible show CEndY _ _ _ _ _ _ _ _ _ _ _)); first | (k_unfold; (try dsimp only)) | (k_end; kc_close) | walk1 | (dsimp only; walk1) | (leave1; walk_say "STEP leave1"; (try dsimp only)) | fail "no step"))
              (refine' CEnd.mk (tl' := []) ?c1 ?c2 ?c3 ?c4 ?c5 ?c6 ktn_ord0 ?_; (case c1 => k_asm); (case c2 => assumption); (case c3 => k_asm); (case c5 => assumption); (case c6 => assumption); (case c4 => k_extra "X my sub"))
              refine ⟨by omega, ?_⟩
              rw [filter_take_snoc _ hkk]
              simp only [← ebb, Bool.false_eq_true, if_false, List.append_nil, Bool.not_true]
              exact hp8.2
          · intro D8 ys8 tl8 h8 tk8 hp8 ho8 hD8 h9 F9 N9
            obtain ⟨hp81, hp82⟩ := hp8
            have hql : qkvs.length = (keysOf qd).length := by rw [← hqk.keys, List.length_map]
            rw [hql, List.take_length] at hp82
            have hfi : fieldsIn qd pd = decide (((keysOf qd).filter fun x => !((keysOf pd).any (· == x))) = []) := beq_dec _ _
            (repeat' ((fail_if_success (with_reducible show CEnd _ _ _ _ _ _ _ _ _ _)); (fail_if_success (with_reducible show CEndY _ _ _ _ _ _ _ _ _ _ _)); first | (k_unfold; (try dsimp only)) | (k_end; kc_close) | walk1 | (dsimp only; walk1) | (leave1; walk_say "STEP leave1"; (try dsimp only)) | fail "no step"))
            all_goals first
              | ((refine' CEndY.mk (tl' := []) ?c1 ?c2 ?c3 ?c4 ?c5 ?c6 ktn_ord0 ?c7 ?_; (case c1 => k_asm); (case c2 => assumption); (case c3 => k_asm); (case c5 => assumption); (case c6 => assumption); (case c4 => k_extra "X my sub"))
                 case c7 => rw [sizeLine_eq]; omega
                 have e : fieldsIn (dAt ds j) (dAt ds i) = true := by rw [eP, eQ, hfi]; assumption
                 refine ⟨by simp; omega, ?_⟩
                 rw [List.range_succ, List.filter_append, Int.zero_add]
                 simp only [List.filter_cons, e, if_true, List.filter_nil]
                 exact natInts_snoc hp6.2)
              | ((refine' CEnd.mk (tl' := []) ?c1 ?c2 ?c3 ?c4 ?c5 ?c6 ktn_ord0 ?_; (case c1 => k_asm); (case c2 => assumption); (case c3 => k_asm); (case c5 => assumption); (case c6 => assumption); (case c4 => k_extra "X my sub"))
                 have e : fieldsIn (dAt ds j) (dAt ds i) = false := by rw [eP, eQ, hfi]; assumption
                 refine ⟨by omega, ?_⟩
                 rw [List.range_succ, List.filter_append]
                 simp only [List.filter_cons, e, Bool.false_eq_true, if_false, List.filter_nil, List.append_nil]
                 exact hp6.2)
        · intro D6 ys6 tl6 h6 tk6 hp6 ho6 hD6 h7 tk7 F7 N7
          obtain ⟨hp61, hp62⟩ := hp6
          have he1 : elder1 ds i = (List.range i).filter fun e => fieldsIn (dAt ds e) (dAt ds i) := rfl
          rw [← he1] at hp62
          k_steps
          refine' CSrc.list (vs := ys6) (fun k ys _ => ys.length ≤ k ∧ IntsAre ys (natInts (((elder1 ds i).take k).filter fun e => lotsWithin (dAt ds i).lots (dAt ds e).lots))) ?hm7 rfl (by assumption) (by assumption) (by decide) rfl (by intro g h; cases h) ⟨Nat.le_refl _, .nil⟩ ?_ ?_
          case hm7 => k_mem
          · intro k v ys8 tl8 h8 tk8 I8 oI8 oC8 C8 D8 mC8 hv hp8 ho8 b38 off8 tr8 F8 hC8 N8
            refine hideG fun hG9 kG9 => ?_
            obtain ⟨e, te, rfl, hek⟩ := natInts_get hp62 hv
            refine kG9 ?_
            clear kG9 hG9
            have hei : e < i := List.mem_range.mp (List.mem_filter.mp (List.mem_of_getElem? hek)).1
            have hyl : ys2.length = ds.length := kQ.length
            refine hideG fun hG9 kG9 => ?_
            obtain ⟨pl, pd', hpl, hpd', hpL⟩ := kQ.at (show i < ys2.length by omega)
            refine kG9 ?_
            clear kG9 hG9
            refine hideG fun hG9 kG9 => ?_
            obtain ⟨ql, qd, hql, hqd, hqL⟩ := kQ.at (show e < ys2.length by omega)
            refine kG9 ?_
            clear kG9 hG9
            have eP' := dAt_of hpd'
            have eQ' := dAt_of hqd
            have hb1 := WD.lots_len pd'
            refine CTurn.filter rfl rfl tr8 off8 F8 hC8 N8 ?_
            intro h9 oC9 mC9 tk9 E9 F9 hC9 hx9 N9
            (repeat' ((fail_if_success (with_reducible show CEnd _ _ _ _ _ _ _ _ _ _)); (fail_if_success (with_reducible show CEndY _ _ _ _ _ _ _ _ _ _ _)); first | (k_unfold; (try dsimp only)) | (k_end; kc_close) | walk1 | (dsimp only; walk1) | (leave1; walk_say "STEP leave1"; (try dsimp only)) | fail "no step"))
            all_goals rename Led => T9
            all_goals first
              | ((refine' CEndY.mk (tl' := T9) ?c1 ?c2 ?c3 ?c4 ?c5 ?c6 ?c8 ?c7 ?_; (case c1 => k_asm); (case c2 => assumption); (case c3 => k_asm); (case c5 => assumption); (case c6 => assumption); (case c4 => k_extra "X my sub"); (case c8 => k_extra "X my ord"))
                 case c7 => rw [sizeLine_eq]; have := (List.getElem?_eq_some_iff.mp hek).1; have := List.length_filter_le (fun e => fieldsIn (dAt ds e) (dAt ds i)) (List.range i); rw [List.length_range] at this; rw [← he1] at this; omega
                 have e2 : lotsWithin (dAt ds i).lots (dAt ds e).lots = true := by rw [eP', eQ']; assumption
                 refine ⟨by simp; omega, ?_⟩
                 rw [filter_take_snocN _ hek]
                 simp only [e2, if_true]
                 exact natInts_snoc hp8.2)
              | ((refine' CEnd.mk (tl' := T9) ?c1 ?c2 ?c3 ?c4 ?c5 ?c6 ?c8 ?_; (case c1 => k_asm); (case c2 => assumption); (case c3 => k_asm); (case c5 => assumption); (case c6 => assumption); (case c4 => k_extra "X my sub"); (case c8 => k_extra "X my ord"))
                 have e2 : lotsWithin (dAt ds i).lots (dAt ds e).lots = false := by rw [eP', eQ']; assumption
                 refine ⟨by omega, ?_⟩
                 rw [filter_take_snocN _ hek]
                 simp only [e2, Bool.false_eq_true, if_false, List.append_nil]
                 exact hp8.2)
          · intro D8 ys8 tl8 h8 tk8 hp8 ho8 hD8 h9 tk9 F9 N9
            obtain ⟨hp81, hp82⟩ := hp8
            have he2 : elder2 ds i = (elder1 ds i).filter fun e => lotsWithin (dAt ds i).lots (dAt ds e).lots := rfl
            have hll : ys6.length = (elder1 ds i).length := by rw [hp62.length]; exact List.length_map ..
            rw [hll, List.take_length, ← he2] at hp82
            simp only [List.cons_append, List.append_assoc] at N9
            k_steps
            rename IntsAre _ (List.take 1 _) => hI9
            have e8 : (natInts (elder2 ds i)).take 1 = natInts ((elder2 ds i).take 1) := List.map_take.symm
            have hI8 := hI9
            rw [e8] at hI8
            have hl8 := hI8.length
            have hl9 : ((elder2 ds i).take 1).length ≤ 1 := by rw [List.length_take]; omega
            have hl7 : (natInts ((elder2 ds i).take 1)).length = ((elder2 ds i).take 1).length := List.length_map ..
            refine' CSrc.listT (fun k ys l => ys.length ≤ k ∧ All2 (PairIn l) ys ((((elder2 ds i).take 1).take k).map fun e : Nat => ((i : Int), (e : Int)))) ?hm8 rfl (by assumption) (by assumption) (by decide) rfl (by intro g h; cases h) ⟨Nat.le_refl _, .nil⟩ ?_ ?_
            case hm8 => k_mem
            · intro k v ys11 tl11 h11 tk11 I11 oI11 oC11 C11 D11 mC11 hv hp11 ho11 b311 off11 tr11 F11 hC11 N11
              refine hideG fun hG9 kG9 => ?_
              obtain ⟨e, te, rfl, hek⟩ := natInts_get hI8 hv
              refine kG9 ?_
              clear kG9 hG9
              refine CTurn.map rfl rfl tr11 off11 F11 hC11 N11 ?_
              intro h12 oC12 mC12 tk12 E12 F12 hC12 hx12 N12
              (repeat' ((fail_if_success (with_reducible show CEnd _ _ _ _ _ _ _ _ _ _)); (fail_if_success (with_reducible show CEndY _ _ _ _ _ _ _ _ _ _ _)); first | (k_unfold; (try dsimp only)) | (k_end; kc_close) | walk1 | (dsimp only; walk1) | (leave1; walk_say "STEP leave1"; (try dsimp only)) | fail "no step"))
              rename News _ _ _ (_ :: (I11, _) :: _) => N13
              obtain ⟨D13, eD⟩ := name_led N13
              subst eD
              (refine' CEndY.mk (tl' := [(D13, tupO [Value.int (0 + (i : Int)) tv, Value.int (e : Int) te] 0)]) ?c1 ?c2 ?c3 ?c4 ?c5 ?c6 ?c8 ?c7 ?_; (case c1 => k_asm); (case c2 => assumption); (case c3 => k_asm); (case c5 => assumption); (case c6 => assumption); (case c4 => k_extra "X my sub"); (case c8 => k_extra "X my ord"))
              case c7 => rw [sizeLine_eq]; have := (List.getElem?_eq_some_iff.mp hek).1; omega
              refine TJ.mk ⟨by simp; omega, ?_⟩
              rw [List.take_add_one, hek, List.map_append]
              refine (hp11.2.imp fun _ _ h => h.mono (by k_extra "X my sub")).append (.cons ?_ .nil)
              show PairIn _ _ ((i : Int), (e : Int))
              have e3 : ((i : Int), (e : Int)) = (0 + (i : Int), (e : Int)) := by simp
              rw [e3]
              exact PairIn.mk (by k_mem)
            · intro D11 ys11 tl11 h11 tk11 hp11 ho11 hD11 h12 F12 N12
              obtain ⟨hp111, hp112⟩ := hp11
              simp only [List.cons_append, List.append_assoc] at N12
              rw [hl8, hl7, List.take_length] at hp112
              have hl11 := hp112.length
              rw [List.length_map] at hl11
              k_steps
              try dsimp only
              k_steps
              rename News _ _ _ (_ :: (D11, _) :: _) => N14
              obtain ⟨D14, eD⟩ := name_led N14
              subst eD
              rename (_ : Obj).data = Data.cell (some (Value.int _ _)) => hz'
              refine' ForPost.mk (by k_asm) N14 ?g1 ?g2 ⟨_, _, D14, 0, ws ++ ys11, tl5 ++ (tl6 ++ (tl8 ++ (tl11 ++ [(D14, listOf (ws ++ ys11).toArray 0)]))), rfl, hz', ?g4, ?g5, rfl, ?g6, ?g7, ?g8, ?g9⟩
              case g1 => k_extra "X my sub"
              case g2 => k_extra "X my ne"
              case g4 => k_extra "X my ne"
              case g5 => k_extra "X my ord"
              case g6 => k_mem
              case g7 =>
                rw [dueUpto_succ]
                exact (hdA.imp fun _ _ x => PairIn.mono x (by k_extra "X my sub")).append (hp112.imp fun _ _ x => PairIn.mono x (by k_extra "X my sub"))
              case g8 => rw [List.length_append]; omega
              case g9 =>
                intro z h1 h2
                simp [kstB, h1, h2, hm1 z h1 h2]
      · intro m nx h5 tk5 hp98 N1 N2
        refine hideG fun hG9 kG9 => ?_
        obtain ⟨oP, z, dA, wsn, ws, tl5, rfl, hz, hne, hab, hdue, hdm, hdA, hdl, hm1⟩ := hp98
        refine kG9 ?_
        clear kG9 hG9
        have F5 := frame_ps [(Str.ofString "due", .ref dA), (Str.ofString "rules", .ref D)] [Str.ofString "elder"] (by
            intro p hp
            simp only [List.mem_cons, List.not_mem_nil, or_false] at hp
            rcases hp with rfl | rfl
            · exact hdue
            · exact (hm1 _ (show Str.ofString "rules" ≠ Str.ofString "elder" by decide) (show Str.ofString "rules" ≠ Str.ofString "due" by decide)).trans mRul) (by intro z h2 h3; exact hm1 z (by rintro rfl; simp at h3) (h2 _ (.head _))) N1
        clear N1
        have kR : ListIn (RuleIn w (Str.ofString "let")) ((L' + 1 + 1 + 1, oP) :: (((l9, listOf (List.toArray []) 0) :: (D2, lst ys2) :: (D, lst ys) :: (L' + 1 + 1, p2) :: (L' + 1, p3) :: (news ++ (tl ++ tl2))) ++ tl5)) (.ref D) ds :=
          ⟨D, _, ys, rfl, by k_mem, hp2.imp fun _ _ x => RuleIn.monoC x (by k_extra "X my subC")⟩
        have kD : ListIn PairIn (((l9, listOf (List.toArray []) 0) :: (D2, lst ys2) :: (D, lst ys) :: (L' + 1 + 1, p2) :: (L' + 1, p3) :: (news ++ (tl ++ tl2))) ++ tl5) (.ref dA) (dueUpto ds ds.length) := ⟨dA, wsn, ws, rfl, hdm, by rw [hvl] at hdA; exact hdA⟩
        generalize hNX : ((l9, listOf (List.toArray []) 0) :: (D2, lst ys2) :: (D, lst ys) :: (L' + 1 + 1, p2) :: (L' + 1, p3) :: (news ++ (tl ++ tl2))) = NX at *
        have hsn : ∀ q ∈ news, q ∈ NX := by rw [← hNX]; k_extra "X my sub"
        clear hp2 hq2 hD hD2 ho ho2 hA hm l1 l1a l1b l1c l1d N9 hNX F9 F9'
        dsimp only
        k_steps
        (refine' hret _ [] _ _ ?e1 (ktn_tl0 ?e2) ktn_ord0 ?_; (case e1 => k_asm); (case e2 => first | k_asm | exact News.sub (by k_asm) (by k_extra "X my sub")))
        rw [shadows_law ok]
        simp

theorem off_F23 : True := by
  k_with "off F23" => skip
  trivial
end
section
theorem anew_F25 : True := by
  w_top off
  trivial
theorem kw21 : True := by
  k_with "X getMethod type:Exception" => ((fail_if_success k_extra "off F25"); ((k_here; (with_reducible show wpAny _ _ (getMethod (Value.type _) (Str.ofString "__init__") _) _ _ _); k_dflt (refine' method_type (v := .builtin "Exception.__init__") ?mtFz79 ?mtXz79 ?mttz79 ?mtsz79 ?mtez79 ?mthz79 ?_; (case mtFz79 => k_asm); (case mtXz79 => k_asm); (case mttz79 => first | rfl | kernel_rfl); (case mtsz79 => decide +kernel); (case mtez79 => with_unfolding_all rfl); (case mthz79 => decide +kernel)))))
  k_with "X getMethod type" => ((fail_if_success k_extra "off F25"); ((k_here; (with_reducible show wpAny _ _ (getMethod (Value.type _) (Str.ofString "__init__") _) _ _ _); k_dflt (refine' method_type (v := .builtin "Exception.__init__") ?mtFz80 ?mtXz80 ?mttz80 ?mtsz80 ?mtez80 ?mthz80 ?_; (case mtFz80 => k_asm); (case mtXz80 => k_asm); (case mttz80 => first | rfl | kernel_rfl); (case mtsz80 => decide +kernel); (case mtez80 => with_unfolding_all rfl); (case mthz80 => decide +kernel)))))
  k_with "X getMethod" => ((fail_if_success k_extra "off F25"); ((k_here; (with_reducible show wpAny _ _ (getMethod (Value.type _) (Str.ofString "__init__") _) _ _ _); k_dflt (refine' method_type (v := .builtin "Exception.__init__") ?mtFz81 ?mtXz81 ?mttz81 ?mtsz81 ?mtez81 ?mthz81 ?_; (case mtFz81 => k_asm); (case mtXz81 => k_asm); (case mttz81 => first | rfl | kernel_rfl); (case mtsz81 => decide +kernel); (case mtez81 => with_unfolding_all rfl); (case mthz81 => decide +kernel)))))
  k_with "X call builtin:Exception.__init__" => ((fail_if_success k_extra "off F25"); ((k_here; k_dflt (refine' call_excInit ?ceFz82 ?ceXz82 ?ceNz82 ?ceOz82 ?_; (case ceFz82 => k_asm); (case ceXz82 => k_asm); (case ceNz82 => k_asm); (case ceOz82 => k_extra "X my ne")); intro T'z82 h'z82 F'z82 N'z82 l1z82; (try k_lt l1z82); (try k_sweep))))
  k_with "X setAttr ref" => ((fail_if_success k_extra "off F25"); ((k_here; k_dflt (refine' err_store ?ceFz83 ?ceXz83 ?ceNz83 ?ceOz83 ?_; (case ceFz83 => k_asm); (case ceXz83 => k_asm); (case ceNz83 => exact News.sub (by k_asm) (by k_extra "X my sub")); (case ceOz83 => k_extra "X my ne")); intro T'z83 oT'z83 h'z83 tk'z83 F'z83 N'z83 l1z83; (try k_lt l1z83); (try k_sweep))))
  trivial
theorem err_says {w : World} {news : Led} {x : Str} {t : Tok} :
   Says w 45 3 64 news [.str x t] (TPost news [] fun l r => ErrIn l r) := by
  unfold Says; intro mean mg mb dp un gd cn cs ca ccd cl outer A₀ base h₀ L m s Q E B F X N T hk hd hu hret
  k_dflt (refine' call_err ?k1 ?k2 ?k3 ?_; (case k1 => k_asm); (case k2 => k_asm); (case k3 => k_asm); k_whole; intro e' t' h' F' N' l1 l2; (have l3 : ∀ q ∈ news, q.1 < e' := fun q hq => Nat.lt_trans (l1 q hq) l2); (try k_lt l1); (try k_lt2 l2); (try k_sweep))
  k_dflt ktr_enter
  k_steps
  rename News h₀ L _ ((_, _) :: (_, _) :: (_, _) :: news) => N9
  refine hret _ _ _ _ ?e1 (tl3 N9) ?e3 (TPost.mk ⟨_, _, _, rfl, .tail _ (.head _)⟩)
  case e1 => k_asm
  case e3 => k_extra "X my ord"

theorem off_F25 : True := by
  k_with "off F25" => skip
  trivial
end
section
theorem anew_F26 : True := by
  w_top off
  trivial
theorem kw22 : True := by
  k_with "X call ref" => ((fail_if_success k_extra "off F26"); ((k_here; (with_reducible show wpAny _ _ (call (Value.ref 128) _) _ _ _); k_dflt (refine' Says.use (rm8 ?h0z84 ?hlz84 ?h1z84) ?kBz84 ?kFz84 ?kXz84 ?kNz84 ?kTz84 ?kKz84 ?kDz84 ?kUz84 ?_; (case kBz84 => k_asm); (case kFz84 => k_asm); (case kXz84 => k_asm); (case kNz84 => k_asm); (case kTz84 => k_asm); (case kKz84 => first | exact rfl | assumption); (case kDz84 => ktr_room); (case kUz84 => ktr_units)); ((case h0z84 => omega); (case hlz84 => omega); (case h1z84 => omega)); intro r9z84 tl9z84 h9z84 tk9z84 F9z84 N9z84 o9z84 p9z84; (try replace p9z84 := TPost.get p9z84); (try dsimp only [List.nil_append, List.cons_append] at N9z84); (try simp only [List.nil_append, List.cons_append, List.append_nil, List.append_assoc] at N9z84); (try dsimp only [List.nil_append, List.cons_append] at p9z84); (try simp only [List.nil_append, List.cons_append, List.append_nil, List.append_assoc] at p9z84); (revert p9z84; (first | with_reducible apply ListIn.imp | with_reducible apply IntsIn.imp); intro a9z84 n9z84 v9z84 m9z84 q9z84; clear r9z84); (try dsimp only); (try k_fold))))
  trivial
theorem wish_masks8g {w : World} {news : Led} {v : Value} {d : Wish} {tt : Tok} (ha : WishIn news v d) (ok : d.ok 8) :
   Says w 135 2 16 news [v, .int 8 tt] (fun l r => ListIn PairIn l r (d.masks 8)) := by
  have e8 : (2 : Int) ^ 8 = 256 := rfl
  cases ha <;> simp only [Wish.ok, e8] at ok
  all_goals (unfold Says; intro mean mg mb dp un gd cn cs a ccd cl outer A₀ base h₀ L m s Q E B F X N T hk hd hu hret; refine wpAny_call ?_; k_dflt ktr_enter)
  all_goals k_steps
  · (refine' hret _ _ _ _ ?e1 ?e2 ?e3 ?_; (case e1 => k_asm); (case e2 => first | exact ktn_tl0 (by k_asm) | k_asm | exact ktn_tl1 (by k_asm) | exact ktn_tl2 (by k_asm) | exact tl2 (by k_asm) | exact tlb2 (by k_asm) | exact tl3 (by k_asm) | exact tlb3 (by k_asm)); (case e3 => k_extra "X my ord"))
    exact ListIn.mk (by k_mem) (.cons (PairIn.mk (by k_mem)) .nil)
  · (refine' hret _ _ _ _ ?e1 ?e2 ?e3 ?_; (case e1 => k_asm); (case e2 => first | exact ktn_tl0 (by k_asm) | k_asm | exact ktn_tl1 (by k_asm) | exact ktn_tl2 (by k_asm) | exact tl2 (by k_asm) | exact tlb2 (by k_asm) | exact tl3 (by k_asm) | exact tlb3 (by k_asm)); (case e3 => k_extra "X my ord"))
    exact ListIn.mk (by k_mem) (by assumption)

theorem off_F26 : True := by
  k_with "off F26" => skip
  trivial
end
section
theorem anew_F24 : True := by
  w_top off
  trivial
theorem kw23 : True := by
  k_with "X call ref" => ((fail_if_success k_extra "off F24"); ((k_here; (with_reducible show wpAny _ _ (call (Value.ref 100) _) _ _ _); k_dflt (refine' Says.use (rows_says' ?h0z85) ?kBz85 ?kFz85 ?kXz85 ?kNz85 ?kTz85 ?kKz85 ?kDz85 ?kUz85 ?_; (case kBz85 => k_asm); (case kFz85 => k_asm); (case kXz85 => k_asm); (case kNz85 => k_asm); (case kTz85 => k_asm); (case kKz85 => first | exact rfl | assumption); (case kDz85 => ktr_room); (case kUz85 => ktr_units)); (case h0z85 => exact RuleIn.mono (by assumption) (by k_extra "X my sub")); intro r9z85 tl9z85 h9z85 tk9z85 F9z85 N9z85 o9z85 p9z85; (try replace p9z85 := TPost.get p9z85); (try dsimp only [List.nil_append, List.cons_append] at N9z85); (try simp only [List.nil_append, List.cons_append, List.append_nil, List.append_assoc] at N9z85); (try dsimp only [List.nil_append, List.cons_append] at p9z85); (try simp only [List.nil_append, List.cons_append, List.append_nil, List.append_assoc] at p9z85); (revert p9z85; (first | with_reducible apply ListIn.imp | with_reducible apply IntsIn.imp); intro a9z85 n9z85 v9z85 m9z85 q9z85; clear r9z85); (try dsimp only); (try k_fold))))
  k_with "X call ref" => ((fail_if_success k_extra "off F24"); ((k_here; (with_reducible show wpAny _ _ (call (Value.ref 135) _) _ _ _); k_dflt (refine' Says.use (wish_masks_says3 ?h0z86 ?h1z86) ?kBz86 ?kFz86 ?kXz86 ?kNz86 ?kTz86 ?kKz86 ?kDz86 ?kUz86 ?_; (case kBz86 => k_asm); (case kFz86 => k_asm); (case kXz86 => k_asm); (case kNz86 => k_asm); (case kTz86 => k_asm); (case kKz86 => first | exact rfl | assumption); (case kDz86 => ktr_room); (case kUz86 => ktr_units)); ((case h0z86 => exact WishIn.mono (by assumption) (by k_extra "X my sub")); (case h1z86 => assumption)); intro r9z86 tl9z86 h9z86 tk9z86 F9z86 N9z86 o9z86 p9z86; (try replace p9z86 := TPost.get p9z86); (try dsimp only [List.nil_append, List.cons_append] at N9z86); (try simp only [List.nil_append, List.cons_append, List.append_nil, List.append_assoc] at N9z86); (try dsimp only [List.nil_append, List.cons_append] at p9z86); (try simp only [List.nil_append, List.cons_append, List.append_nil, List.append_assoc] at p9z86); (revert p9z86; with_reducible apply ListIn.imp; intro c9z86 n9z86 v9z86 m9z86 a9z86; clear r9z86; have q9z86 := All2.length a9z86); (try dsimp only); (try k_fold))))
  k_with "X call ref" => ((fail_if_success k_extra "off F24"); ((k_here; (with_reducible show wpAny _ _ (call (Value.ref 135) _) _ _ _); k_dflt (refine' Says.use (wish_masks8g ?h0z87 ?h1z87) ?kBz87 ?kFz87 ?kXz87 ?kNz87 ?kTz87 ?kKz87 ?kDz87 ?kUz87 ?_; (case kBz87 => k_asm); (case kFz87 => k_asm); (case kXz87 => k_asm); (case kNz87 => k_asm); (case kTz87 => k_asm); (case kKz87 => first | exact rfl | assumption); (case kDz87 => ktr_room); (case kUz87 => ktr_units)); ((case h0z87 => exact WishIn.mono (by assumption) (by k_extra "X my sub")); (case h1z87 => assumption)); intro r9z87 tl9z87 h9z87 tk9z87 F9z87 N9z87 o9z87 p9z87; (try replace p9z87 := TPost.get p9z87); (try dsimp only [List.nil_append, List.cons_append] at N9z87); (try simp only [List.nil_append, List.cons_append, List.append_nil, List.append_assoc] at N9z87); (try dsimp only [List.nil_append, List.cons_append] at p9z87); (try simp only [List.nil_append, List.cons_append, List.append_nil, List.append_assoc] at p9z87); (revert p9z87; with_reducible apply ListIn.imp; intro c9z87 n9z87 v9z87 m9z87 a9z87; clear r9z87; have q9z87 := All2.length a9z87); (try dsimp only); (try k_fold))))
  k_with "X exec For Tuple Call cons nil" => ((fail_if_success k_extra "off F24"); ((k_here; (rename Fr _ _ _ _ => lF'z88); (with_unfolding_all refine' for_led lF'z88 ?_))))
  k_with "X exec For Name Name cons nil" => ((fail_if_success k_extra "off F24"); ((k_here; (rename Fr _ _ _ _ => lF'z89); (with_unfolding_all refine' for_led lF'z89 ?_))))
  k_with "X exec For Tuple Name cons nil" => ((fail_if_success k_extra "off F24"); ((k_here; (rename Fr _ _ _ _ => lF'z90); (with_unfolding_all refine' for_led lF'z90 ?_))))
  k_with "X call ref" => ((fail_if_success k_extra "off F24"); ((k_here; (with_reducible show wpAny _ _ (call (Value.ref 45) _) _ _ _); refine raise_stop ?_)))
  k_with "X exec Raise some none" => ((fail_if_success k_extra "off F24"); ((k_here; refine Raise_err rfl ?_)))
  k_with "X call ref" => ((fail_if_success k_extra "off F24"); ((k_here; (with_reducible show wpAny _ _ (call (Value.ref 117) _) _ _ _); k_dflt (refine' Says.use (rule_new ?haz93 ?h0z93 ?hsz93 ?h1z93) ?kBz93 ?kFz93 ?kXz93 ?kNz93 ?kTz93 ?kKz93 ?kDz93 ?kUz93 ?_; (case kBz93 => k_asm); (case kFz93 => k_asm); (case kXz93 => k_asm); (case kNz93 => k_asm); (case kTz93 => k_asm); (case kKz93 => first | exact rfl | assumption); (case kDz93 => ktr_room); (case kUz93 => ktr_units)); ((case haz93 => assumption); (case h0z93 => assumption); (case hsz93 => k_extra "X my sub"); (case h1z93 => assumption)); intro r9z93 tl9z93 h9z93 tk9z93 F9z93 N9z93 o9z93 p9z93; (try replace p9z93 := TPost.get p9z93); (try dsimp only [List.nil_append, List.cons_append] at N9z93); (try simp only [List.nil_append, List.cons_append, List.append_nil, List.append_assoc] at N9z93); (try dsimp only [List.nil_append, List.cons_append] at p9z93); (try simp only [List.nil_append, List.cons_append, List.append_nil, List.append_assoc] at p9z93); (revert p9z93; with_reducible apply RuleIn.imp; intro c9z93 p9z93; clear r9z93); (try dsimp only); (try k_fold))))
  trivial
theorem masked_both {w : World} {news : Led} {v : Value} {d : WD} {act : Str} {most : Int} {t : Tok} (hact : act = Str.ofString "let" ∨ act = Str.ofString "drop") (ha : RuleIn w act news v d) (ok : WD.ok d) (hm2 : most ≤ 1000) :
   SaysB w 189 6 128 news [v, .int most t] (fun l r => ListIn (RuleIn w act) l r d.maskeds ∧ MOk d most) (¬ MOk d most) := by
  refine hideG fun hG9 kG9 => ?_
  obtain ⟨x, dx, tt, t1, t2, wv, rfl, hx, hdx, hwv⟩ := id ha
  refine kG9 ?_
  clear kG9 hG9
  (unfold SaysB; intro mean mg mb dp un gd cn cs a ccd cl outer A₀ base h₀ L m s Q E B F X N T hk hd hu hret hexc; refine wpAny_call ?_; k_dflt (refine' code_defC ?k1 ?k2 ?k3 ?k4 ?k5 ?kA ?kF ?kK ?k6 ?k7 ?k8 ?k9 ?kB ?kD ?_ ?c2 ?c3 ?c4; (case kA => exact rfl); (case kF => exact rfl); (case kK => assumption); (case k1 => k_asm); (case k2 => k_asm); (case k3 => k_asm); (case k4 => k_asm); (case k5 => k_asm); (case k6 => k_is); (case k7 => k_is); (case k8 => ktr_room); (case k9 => exact BindsTo.of_eq rfl); (case kB => exact rfl); (case kD => decide +kernel); (case c2 => exact rfl); (case c3 => exact rfl); (case c4 => exact rfl); k_whole; intro g' L' h' tk' cells' FG' F' N' Y' B' X' T' l1; (have l1a := lt_plus 1 l1); (have l1b := lt_plus 2 l1); (have l1c := lt_plus 3 l1); (have l1d := lt_plus 4 l1); k_cells Y'; (try simp only [List.cons_append, List.nil_append] at N'); (try dsimp only); (try k_lift B'); (try k_fold)))
  k_steps
  rename All2 _ _ _ => hE
  have hvl := hE.length
  rename News _ _ _ ((_, _) :: (_, _) :: (_, _) :: (news ++ _)) => N9
  refine hideG fun hG9 kG9 => ?_
  obtain ⟨l9, d9, q9, p9, T9, e1, e2, e3, e4, e5⟩ := name_m N9
  subst e1 e2 e3 e4 e5
  refine kG9 ?_
  clear kG9 hG9
  rename (_, listOf (List.toArray _) _) ∈ _ => hM
  refine hideG fun hG9 kG9 => ?_
  obtain ⟨ra, vs, rn, e1, e2, e3⟩ := name_mem hM
  subst e1 e2 e3
  refine kG9 ?_
  clear kG9 hG9
  rename Fr _ _ _ _ => F9
  obtain ⟨M0, eM⟩ := name_fr F9
  have F9' : Fr _ _ _ M0 := eM ▸ F9
  have mFo : M0 (Str.ofString "found") = some (.ref l9) := by rw [eM]; rfl
  have mMo : M0 (Str.ofString "most") = some (.int most t) := by rw [eM]; rfl
  clear eM
  have hM0 : (ra, listOf (List.toArray vs) rn) ∈ ((l9, listOf (List.toArray [.ref d9]) 0) :: (d9, q9) :: (L' + 1, p9) :: (news ++ T9)) ++ [] := by rw [List.append_nil]; exact hM
  refine ForSrc.mk (nx₀ := ((l9, listOf (List.toArray [.ref d9]) 0) :: (d9, q9) :: (L' + 1, p9) :: (news ++ T9)) ++ []) (MJ w ((l9, listOf (List.toArray [.ref d9]) 0) :: (d9, q9) :: (L' + 1, p9) :: (news ++ T9)) d most M0) hM0 rfl F9' (News.sub N9 (by k_extra "X my sub"))
    ⟨l9, 0, [.ref d9], [], rfl, ktn_ord0, mFo, .head _, .cons ⟨d9, q9, [], rfl, by k_mem, by assumption, by assumption, .none⟩ .nil, fun h => absurd h (Nat.lt_irrefl _), fun _ _ => rfl⟩ ?_ ?_ ?_
  · intro i m nx hp98 
    refine hideG fun hG9 kG9 => ?_
    obtain ⟨f, n, fs, tl, rfl, _⟩ := hp98
    refine kG9 ?_
    clear kG9 hG9
    exact List.mem_append_left _ hM
  · have mvs : (L' + 1, p9) ∈ ((l9, listOf (List.toArray [.ref d9]) 0) :: (d9, q9) :: (L' + 1, p9) :: (news ++ T9)) := by k_mem
    generalize hNX : ((l9, listOf (List.toArray [.ref d9]) 0) :: (d9, q9) :: (L' + 1, p9) :: (news ++ T9)) = NX at *
    have kE : All2 (EntryIn NX) vs d.entries := hE
    have kM : (ra, listOf (List.toArray vs) rn) ∈ NX := hM
    have mMo2 := mMo
    clear hM0 hE hM N9 hNX F9 F9' l1 l1a l1b l1c l1d hx hdx hwv ha mFo
    intro i v m nx h tk I oI hv hp98 off F1 N1
    refine hideG fun hG9 kG9 => ?_
    obtain ⟨f, n, fs, tl, rfl, hab, hfo, hfm, hfs, hle, hm1⟩ := hp98
    refine kG9 ?_
    clear kG9 hG9
    refine hideG fun hG9 kG9 => ?_
    obtain ⟨⟨k, y⟩, hq, hR⟩ := kE.get hv
    refine kG9 ?_
    clear kG9 hG9
    refine hideG fun hG9 kG9 => ?_
    obtain ⟨b, bn, tb, wv', rfl, hb, hW⟩ := hR
    refine kG9 ?_
    clear kG9 hG9
    have hat := WD.entry_at hq
    dsimp only at hb hW hat
    have F2 := frame_ps [(Str.ofString "found", .ref f), (Str.ofString "most", .int most t)] [Str.ofString "place", Str.ofString "wish", Str.ofString "rows", Str.ofString "longer", Str.ofString "wishes", Str.ofString "value", Str.ofString "mask", Str.ofString "row"] (by
      intro p hp
      simp only [List.mem_cons, List.not_mem_nil, or_false] at hp
      rcases hp with rfl | rfl
      · exact hfo
      · exact (hm1 _ (show mStored.contains (Str.ofString "most") = false by decide)).trans mMo) (by
      intro z h2 h3
      refine hm1 z ?_
      have := h2 _ (.head _)
      simp only [List.contains_cons, List.contains_nil, Bool.or_false, Bool.or_eq_false_iff, beq_eq_false_iff_ne, ne_eq] at h3 ⊢
      exact ⟨this, h3⟩) F1
    clear F1
    have hfl := hfs.length
    have hfc : (d.masked i).length ≤ 1000 := by
      rcases Nat.eq_zero_or_pos i with rfl | h0
      · exact Nat.le_trans (Nat.le_of_eq (rfl : (d.masked 0).length = 1)) (Nat.le_of_ble_eq_true rfl)
      · have := hle h0; omega
    rcases hat with ⟨rfl, hy⟩ | ⟨rfl, hy⟩
    · have oky := ok.1 _ hy
      have hml := masks_len (by decide) oky
      have hbit : bitsOf 4 = 3 := rfl
      k_steps
      · (unfold RaiseAt; (k_here; k_dflt (refine' Says.use err_says ?kB ?kF ?kX ?kN ?kT ?kK ?kD ?kU ?_; (case kB => k_asm); (case kF => k_asm); (case kX => k_asm); (case kN => k_asm); (case kT => k_asm); (case kK => first | exact rfl | assumption); (case kD => ktr_room); (case kU => ktr_units)); skip; intro r9 tl9 h9 tk9 F9 N9 o9 p9; (try replace p9 := TPost.get p9); (try dsimp only [List.nil_append, List.cons_append] at N9); (try simp only [List.nil_append, List.cons_append, List.append_nil, List.append_assoc] at N9); (try dsimp only [List.nil_append, List.cons_append] at p9); (try simp only [List.nil_append, List.cons_append, List.append_nil, List.append_assoc] at p9); skip; (try dsimp only); (try k_fold)); obtain ⟨e9, dx9, t9, e8, m9⟩ := p9; subst e8; refine ⟨e9, dx9, t9, rfl, X'.keeps (Fr.keep (by k_asm)), (N9 (e9, errO dx9 t9) (by k_mem)).1, ?_⟩; refine leave_err B' FG' (by k_asm) N9 (by k_mem) rfl rfl ?_; intro h8 fl8; refine hexc _ _ _ (not_MOk ok hq ?_) fl8; (rename (_ : Nat) = (Wish.masks _ _).length => q8); (first | show most < ((d.masked i).length : Int) * ((Wish.masks 3 y).length : Int) | show most < ((d.masked i).length : Int) * ((Wish.masks 8 y).length : Int)); rw [← q8, ← hfl]; omega)
      · rename (_, listOf (List.toArray _) _) ∈ _ => hRm
        refine hideG fun hG9 kG9 => ?_
        obtain ⟨rr, rs, rk, e1, e2, e3⟩ := name_mem hRm
        subst e1 e2 e3
        refine kG9 ?_
        clear kG9 hG9
        rename All2 (PairIn _) _ _ => hRA
        rename News _ _ _ ((_, _) :: (I, oI) :: _) => N9
        obtain ⟨lg, eD⟩ := name_led N9
        subst eD
        rename Led => T8
        rename Fr _ _ _ _ => F9
        obtain ⟨M1, eM⟩ := name_fr F9
        have F9' : Fr _ _ _ M1 := eM ▸ F9
        have m1r : M1 (Str.ofString "rows") = some (.ref rr) := by rw [eM]; rfl
        have m1l : M1 (Str.ofString "longer") = some (.ref lg) := by rw [eM]; rfl
        have m1p : M1 (Str.ofString "place") = some (.int 4 tb) := by rw [eM]; rfl
        have m1e : ∀ z, mStored.contains z = false → M1 z = M0 z := by
          intro z hz
          have n1 : z ≠ Str.ofString "found" := by rintro rfl; simp at hz
          have n2 : z ≠ Str.ofString "longer" := by rintro rfl; simp at hz
          have n3 : z ≠ Str.ofString "wishes" := by rintro rfl; simp at hz
          have n4 : z ≠ Str.ofString "value" := by rintro rfl; simp at hz
          have n5 : z ≠ Str.ofString "mask" := by rintro rfl; simp at hz
          have n6 : z ≠ Str.ofString "row" := by rintro rfl; simp at hz
          have n7 : z ≠ Str.ofString "place" := by rintro rfl; simp at hz
          have n8 : z ≠ Str.ofString "wish" := by rintro rfl; simp at hz
          have n9 : z ≠ Str.ofString "rows" := by rintro rfl; simp at hz
          rw [eM]
          by_cases h1 : z = Str.ofString "most"
          · subst h1; rw [mMo]; rfl
          simp [kstB, n1, n2, n3, n4, n5, n6, n7, n8, n9, h1]
        clear eM F9
        refine ForSrc.mk (nx₀ := (lg, listOf (List.toArray []) 0) :: (((I, oI) :: (NX ++ (tl ++ T8))) ++ [])) (MJ2 w (NX ++ tl) ((I, oI) :: (NX ++ (tl ++ T8))) lg (d.masked i) (4, y) M1) (show (f, listOf fs.toArray n) ∈ _ by k_mem) rfl F9' (News.sub N9 (by k_extra "X my sub"))
          ⟨[], 0, [], rfl, ?vje2, ktn_ord0, .nil, fun _ _ => rfl⟩ ?_ ?_ ?_
        case vje2 =>
          rw [List.append_nil]
          k_extra "X my ne"
        · intro j m2 nx2 hp98 
          refine hideG fun hG9 kG9 => ?_
          obtain ⟨xs, k, tlm, rfl, _⟩ := hp98
          refine kG9 ?_
          clear kG9 hG9
          k_mem
        · intro j v2 m2 nx2 h2 tk2 I2 oI2 hv2 hp98 off2 F2 N2
          refine hideG fun hG9 kG9 => ?_
          obtain ⟨xs, k, tlm, rfl, hne2, hab2, hA2, hm2⟩ := hp98
          refine kG9 ?_
          clear kG9 hG9
          refine hideG fun hG9 kG9 => ?_
          obtain ⟨dj, hdj, hDj⟩ := hfs.get hv2
          refine kG9 ?_
          clear kG9 hG9
          have hz7 : dj = WD0 := List.mem_singleton.mp (show dj ∈ [WD0] from masked_at4 hq ▸ List.mem_of_getElem? hdj)
          refine hideG fun hG9 kG9 => ?_
          obtain ⟨da, o, kvs, rfl, hdm, hds, hdo, hdk⟩ := hDj
          refine kG9 ?_
          clear kG9 hG9
          have hkl := hdk.len
          have F3 := frame_ps [(Str.ofString "rows", .ref rr), (Str.ofString "longer", .ref lg), (Str.ofString "place", .int 4 tb)] [Str.ofString "wishes", Str.ofString "value", Str.ofString "mask", Str.ofString "row"] (by
            intro p hp
            simp only [List.mem_cons, List.not_mem_nil, or_false] at hp
            rcases hp with rfl | rfl | rfl
            · exact (hm2 _ (show [Str.ofString "wishes", Str.ofString "value", Str.ofString "mask", Str.ofString "row"].contains (Str.ofString "rows") = false by decide)).trans m1r
            · exact (hm2 _ (show [Str.ofString "wishes", Str.ofString "value", Str.ofString "mask", Str.ofString "row"].contains (Str.ofString "longer") = false by decide)).trans m1l
            · exact (hm2 _ (show [Str.ofString "wishes", Str.ofString "value", Str.ofString "mask", Str.ofString "row"].contains (Str.ofString "place") = false by decide)).trans m1p) (by
            intro z h2 h3
            exact hm2 z h3) F2
          clear F2
          simp only [List.cons_append, List.append_assoc] at N2
          k_steps
          rename Fr _ _ _ _ => F9
          obtain ⟨M2, eM⟩ := name_fr F9
          have F9' : Fr _ _ _ M2 := eM ▸ F9
          have m2l : M2 (Str.ofString "longer") = some (.ref lg) := by rw [eM]; rfl
          have m2w : M2 (Str.ofString "wishes") = some (.ref da) := by rw [eM]; rfl
          have m2p : M2 (Str.ofString "place") = some (.int 4 tb) := by rw [eM]; rfl
          have m2e : ∀ z, [Str.ofString "wishes", Str.ofString "value", Str.ofString "mask", Str.ofString "row"].contains z = false → M2 z = M1 z := by
            intro z hz
            have n1 : z ≠ Str.ofString "value" := by rintro rfl; simp at hz
            have n2 : z ≠ Str.ofString "mask" := by rintro rfl; simp at hz
            have n3 : z ≠ Str.ofString "row" := by rintro rfl; simp at hz
            have n4 : z ≠ Str.ofString "wishes" := by rintro rfl; simp at hz
            rw [eM]
            by_cases h1 : z = Str.ofString "longer"
            · subst h1; rw [m1l]; rfl
            by_cases h2 : z = Str.ofString "rows"
            · subst h2; rw [m1r]; rfl
            by_cases h3 : z = Str.ofString "place"
            · subst h3; rw [m1p]; rfl
            simp [kstB, n1, n2, n3, n4, h1, h2, h3]
          clear eM F9
          refine ForSrc.mk (nx₀ := (lg, listOf (List.toArray xs) k) :: (((I2, oI2) :: (I, oI) :: (NX ++ (tl ++ (T8 ++ tlm)))) ++ [])) (MJ3 w (NX ++ (tl ++ tlm)) ((I2, oI2) :: (I, oI) :: (NX ++ (tl ++ (T8 ++ tlm)))) lg dj 4 (y.masks 3) (mstep ((d.masked i).take j) (4, y)) M2) (show (rr, listOf rs.toArray rk) ∈ _ by k_mem) rfl F9' (News.sub (by k_asm) (by k_extra "X my sub"))
            ⟨xs, k, [], rfl, ?vje3, ktn_ord0, by rw [List.take_zero, List.map_nil, List.append_nil, List.append_nil, ← List.append_assoc]; exact hA2, fun _ _ => rfl⟩ ?_ ?_ ?_
          case vje3 =>
            rw [List.append_nil]
            k_extra "X my ne"
          · intro q m3 nx3 hp98 
            refine hideG fun hG9 kG9 => ?_
            obtain ⟨xs3, k3, tl3, rfl, _⟩ := hp98
            refine kG9 ?_
            clear kG9 hG9
            k_mem
          · intro q v3 m3 nx3 h3 tk3 I3 oI3 hv3 hp98 off3 F4 N4
            refine hideG fun hG9 kG9 => ?_
            obtain ⟨xs3, k3, tl3, rfl, hne3, hab3, hA3, hm3⟩ := hp98
            refine kG9 ?_
            clear kG9 hG9
            refine hideG fun hG9 kG9 => ?_
            obtain ⟨p, hp, hP⟩ := hRA.get hv3
            refine kG9 ?_
            clear kG9 hG9
            refine hideG fun hG9 kG9 => ?_
            obtain ⟨pa, pn, pt, pu, rfl, hpm⟩ := hP
            refine kG9 ?_
            clear kG9 hG9
            have F5 := frame_ps [(Str.ofString "longer", .ref lg), (Str.ofString "wishes", .ref da), (Str.ofString "place", .int 4 tb)] [Str.ofString "value", Str.ofString "mask", Str.ofString "row"] (by
              intro p hp
              simp only [List.mem_cons, List.not_mem_nil, or_false] at hp
              rcases hp with rfl | rfl | rfl
              · exact (hm3 _ (show [Str.ofString "value", Str.ofString "mask", Str.ofString "row"].contains (Str.ofString "longer") = false by decide)).trans m2l
              · exact (hm3 _ (show [Str.ofString "value", Str.ofString "mask", Str.ofString "row"].contains (Str.ofString "wishes") = false by decide)).trans m2w
              · exact (hm3 _ (show [Str.ofString "value", Str.ofString "mask", Str.ofString "row"].contains (Str.ofString "place") = false by decide)).trans m2p) (by
              intro z h2 h3
              exact hm3 z h3) F4
            clear F4
            simp only [List.cons_append, List.append_assoc] at N4
            have hx3 : xs3.length ≤ 300000 := by
              have h1 := hA3.length
              have h2 := (List.getElem?_eq_some_iff.mp hp).1
              have h3 := Nat.mul_le_mul (Nat.le_trans (Nat.le_of_eq List.length_take) (Nat.le_trans (Nat.min_le_right j _) hfc) : ((d.masked i).take j).length ≤ 1000) hml
              have h5 := List.length_take_le q (y.masks 3)
              rw [List.length_append, mstep_length, List.length_map] at h1
              have h4 : bitsOf (4, y).1 = 3 := rfl
              rw [h4] at h1
              dsimp only at h1
              omega
            cases hdk
            all_goals try (exfalso; cases hz7; done)
            all_goals k_steps
            · rename Obj.IsDictOf _ _ (_ :: _) => hd8
              rename News _ _ _ ((_, _) :: (_, _) :: (I3, oI3) :: _) => N9
              simp only [List.push_toArray] at N9
              refine hideG fun hG9 kG9 => ?_
              obtain ⟨D9, B9, oB, e1, e2, e3⟩ := name_two N9
              subst e1 e2 e3
              refine kG9 ?_
              clear kG9 hG9
              refine' ForPost.mk (by k_asm) N9 ?vg1 ?vg2 ⟨xs3 ++ [.ref B9], k3 + 1, tl3 ++ [(B9, oB), (D9, tupO [.str (Str.ofString "mask") _, .int p.1 pt, .int p.2 pu] 0)], rfl, ?vg4, ?vg5, ?vg6, ?vg7⟩
              case vg1 => k_extra "X my sub"
              case vg2 => k_extra "X my ne"
              case vg4 => k_extra "X my ne"
              case vg5 => k_extra "X my ord"
              case vg6 =>
                rw [List.take_add_one, hp, List.map_append, ← List.append_assoc (mstep _ _)]
                refine All2.append ?vgas (All2.cons ?vgxs All2.nil)
                case vgas => exact hA3.imp fun _ _ x => DictIn.mono x (by k_extra "X my sub")
                case vgxs => refine ⟨B9, oB, _, rfl, by k_mem, by assumption, hd8, .four (.mask (by k_mem))⟩
              case vg7 =>
                intro z hz
                have n1 : z ≠ Str.ofString "value" := by rintro rfl; simp at hz
                have n2 : z ≠ Str.ofString "mask" := by rintro rfl; simp at hz
                have n3 : z ≠ Str.ofString "row" := by rintro rfl; simp at hz
                by_cases h1 : z = Str.ofString "longer"
                · subst h1; rw [m2l]; rfl
                by_cases h2 : z = Str.ofString "wishes"
                · subst h2; rw [m2w]; rfl
                by_cases h3 : z = Str.ofString "place"
                · subst h3; rw [m2p]; rfl
                simp [kstB, n1, n2, n3, h1, h2, h3, hm3 z hz]
          · intro m3 nx3 h3 tk3 hp98 F4 N4
            refine hideG fun hG9 kG9 => ?_
            obtain ⟨xs3, k3, tl3, rfl, hne3, hab3, hA3, hm3⟩ := hp98
            refine kG9 ?_
            clear kG9 hG9
            dsimp only
            simp only [List.cons_append, List.append_assoc] at N4
            have hrl := hRA.length
            k_steps
            refine' ForPost.mk (by k_asm) N4 ?vf1 ?vf2 ⟨xs3, k3, tlm ++ tl3, rfl, ?vf4, ?vf5, ?vf6, ?vf7⟩
            case vf1 => k_extra "X my sub"
            case vf2 => k_extra "X my ne"
            case vf4 => k_extra "X my ne"
            case vf5 => k_extra "X my ord"
            case vf6 =>
              rw [hrl, List.take_length] at hA3
              have e : mstep ((d.masked i).take (j + 1)) (4, y) = mstep ((d.masked i).take j) (4, y) ++ (y.masks 3).map fun p => dj.set 4 (.mask p.1 p.2) := by
                rw [List.take_add_one, hdj]
                unfold mstep
                rw [List.flatMap_append]
                simp [hbit]
              rw [e]
              exact hA3.imp fun _ _ x => DictIn.mono x (by k_extra "X my sub")
            case vf7 =>
              intro z hz
              refine (hm3 z ?_).trans (m2e z hz)
              simp only [List.contains_cons, List.contains_nil, Bool.or_false, Bool.or_eq_false_iff] at hz ⊢
              exact hz.2
        · intro m2 nx2 h2 tk2 hp98 F2 N2
          refine hideG fun hG9 kG9 => ?_
          obtain ⟨xs, k, tlm, rfl, hne2, hab2, hA2, hm2⟩ := hp98
          refine kG9 ?_
          clear kG9 hG9
          have F3 := frame_ps [(Str.ofString "longer", .ref lg)] [Str.ofString "wishes", Str.ofString "value", Str.ofString "mask", Str.ofString "row"] (by
            intro p hp
            simp only [List.mem_cons, List.not_mem_nil, or_false] at hp
            rcases hp with rfl
            exact (hm2 _ (show [Str.ofString "wishes", Str.ofString "value", Str.ofString "mask", Str.ofString "row"].contains (Str.ofString "longer") = false by decide)).trans m1l) (by
            intro z h2 h3
            exact hm2 z h3) F2
          clear F2
          dsimp only
          simp only [List.cons_append, List.append_assoc] at N2
          have hrl := hRA.length
          have hcm : ((fs.length : Int) * (rs.length : Int)) ≤ most := by omega
          k_steps
          rename News _ _ _ ((lg, _) :: (I, oI) :: _) => N9
          refine' ForPost.mk (by k_asm) N9 ?vu1 ?vu2 ⟨lg, k, xs, tl ++ (T8 ++ (tlm ++ [(lg, listOf xs.toArray k)])), rfl, ?vu3, rfl, ?vu4, ?vu5, ?vu6, ?vu7⟩
          case vu1 => k_extra "X my sub"
          case vu2 => k_extra "X my ne"
          case vu3 => k_extra "X my ord"
          case vu4 => k_mem
          case vu5 =>
            rw [hfl, List.take_length] at hA2
            rw [masked_succ hq]
            exact hA2.imp fun _ _ x => DictIn.mono x (by k_extra "X my sub")
          case vu6 =>
            intro _
            rw [masked_succ hq, mstep_length, Int.natCast_mul, ← hfl]
            have e : bitsOf (4, y).1 = 3 := rfl
            rw [e, ← hrl]
            exact hcm
          case vu7 =>
            intro z hz
            have n1 : z ≠ Str.ofString "found" := by rintro rfl; simp at hz
            have n2 : z ≠ Str.ofString "longer" := by rintro rfl; simp at hz
            have n3 : z ≠ Str.ofString "wishes" := by rintro rfl; simp at hz
            have n4 : z ≠ Str.ofString "value" := by rintro rfl; simp at hz
            have n5 : z ≠ Str.ofString "mask" := by rintro rfl; simp at hz
            have n6 : z ≠ Str.ofString "row" := by rintro rfl; simp at hz
            simp [kstB, n1, n2, n3, n4, n5, n6]
            exact m1e z hz
    · have oky := ok.g.2 _ hy
      have hml := masks_len (by decide) oky
      have hbit : bitsOf 7 = 8 := rfl
      k_steps
      · (unfold RaiseAt; (k_here; k_dflt (refine' Says.use err_says ?kB ?kF ?kX ?kN ?kT ?kK ?kD ?kU ?_; (case kB => k_asm); (case kF => k_asm); (case kX => k_asm); (case kN => k_asm); (case kT => k_asm); (case kK => first | exact rfl | assumption); (case kD => ktr_room); (case kU => ktr_units)); skip; intro r9 tl9 h9 tk9 F9 N9 o9 p9; (try replace p9 := TPost.get p9); (try dsimp only [List.nil_append, List.cons_append] at N9); (try simp only [List.nil_append, List.cons_append, List.append_nil, List.append_assoc] at N9); (try dsimp only [List.nil_append, List.cons_append] at p9); (try simp only [List.nil_append, List.cons_append, List.append_nil, List.append_assoc] at p9); skip; (try dsimp only); (try k_fold)); obtain ⟨e9, dx9, t9, e8, m9⟩ := p9; subst e8; refine ⟨e9, dx9, t9, rfl, X'.keeps (Fr.keep (by k_asm)), (N9 (e9, errO dx9 t9) (by k_mem)).1, ?_⟩; refine leave_err B' FG' (by k_asm) N9 (by k_mem) rfl rfl ?_; intro h8 fl8; refine hexc _ _ _ (not_MOk ok hq ?_) fl8; (rename (_ : Nat) = (Wish.masks _ _).length => q8); (first | show most < ((d.masked i).length : Int) * ((Wish.masks 3 y).length : Int) | show most < ((d.masked i).length : Int) * ((Wish.masks 8 y).length : Int)); rw [← q8, ← hfl]; omega)
      · rename (_, listOf (List.toArray _) _) ∈ _ => hRm
        refine hideG fun hG9 kG9 => ?_
        obtain ⟨rr, rs, rk, e1, e2, e3⟩ := name_mem hRm
        subst e1 e2 e3
        refine kG9 ?_
        clear kG9 hG9
        rename All2 (PairIn _) _ _ => hRA
        rename News _ _ _ ((_, _) :: (I, oI) :: _) => N9
        obtain ⟨lg, eD⟩ := name_led N9
        subst eD
        rename Led => T8
        rename Fr _ _ _ _ => F9
        obtain ⟨M1, eM⟩ := name_fr F9
        have F9' : Fr _ _ _ M1 := eM ▸ F9
        have m1r : M1 (Str.ofString "rows") = some (.ref rr) := by rw [eM]; rfl
        have m1l : M1 (Str.ofString "longer") = some (.ref lg) := by rw [eM]; rfl
        have m1p : M1 (Str.ofString "place") = some (.int 7 tb) := by rw [eM]; rfl
        have m1e : ∀ z, mStored.contains z = false → M1 z = M0 z := by
          intro z hz
          have n1 : z ≠ Str.ofString "found" := by rintro rfl; simp at hz
          have n2 : z ≠ Str.ofString "longer" := by rintro rfl; simp at hz
          have n3 : z ≠ Str.ofString "wishes" := by rintro rfl; simp at hz
          have n4 : z ≠ Str.ofString "value" := by rintro rfl; simp at hz
          have n5 : z ≠ Str.ofString "mask" := by rintro rfl; simp at hz
          have n6 : z ≠ Str.ofString "row" := by rintro rfl; simp at hz
          have n7 : z ≠ Str.ofString "place" := by rintro rfl; simp at hz
          have n8 : z ≠ Str.ofString "wish" := by rintro rfl; simp at hz
          have n9 : z ≠ Str.ofString "rows" := by rintro rfl; simp at hz
          rw [eM]
          by_cases h1 : z = Str.ofString "most"
          · subst h1; rw [mMo]; rfl
          simp [kstB, n1, n2, n3, n4, n5, n6, n7, n8, n9, h1]
        clear eM F9
        refine ForSrc.mk (nx₀ := (lg, listOf (List.toArray []) 0) :: (((I, oI) :: (NX ++ (tl ++ T8))) ++ [])) (MJ2 w (NX ++ tl) ((I, oI) :: (NX ++ (tl ++ T8))) lg (d.masked i) (7, y) M1) (show (f, listOf fs.toArray n) ∈ _ by k_mem) rfl F9' (News.sub N9 (by k_extra "X my sub"))
          ⟨[], 0, [], rfl, ?je2, ktn_ord0, .nil, fun _ _ => rfl⟩ ?_ ?_ ?_
        case je2 =>
          rw [List.append_nil]
          k_extra "X my ne"
        · intro j m2 nx2 hp98 
          refine hideG fun hG9 kG9 => ?_
          obtain ⟨xs, k, tlm, rfl, _⟩ := hp98
          refine kG9 ?_
          clear kG9 hG9
          k_mem
        · intro j v2 m2 nx2 h2 tk2 I2 oI2 hv2 hp98 off2 F2 N2
          refine hideG fun hG9 kG9 => ?_
          obtain ⟨xs, k, tlm, rfl, hne2, hab2, hA2, hm2⟩ := hp98
          refine kG9 ?_
          clear kG9 hG9
          refine hideG fun hG9 kG9 => ?_
          obtain ⟨dj, hdj, hDj⟩ := hfs.get hv2
          refine kG9 ?_
          clear kG9 hG9
          have hz7 := masked_at7 hq dj (List.mem_of_getElem? hdj)
          refine hideG fun hG9 kG9 => ?_
          obtain ⟨da, o, kvs, rfl, hdm, hds, hdo, hdk⟩ := hDj
          refine kG9 ?_
          clear kG9 hG9
          have hkl := hdk.len
          have F3 := frame_ps [(Str.ofString "rows", .ref rr), (Str.ofString "longer", .ref lg), (Str.ofString "place", .int 7 tb)] [Str.ofString "wishes", Str.ofString "value", Str.ofString "mask", Str.ofString "row"] (by
            intro p hp
            simp only [List.mem_cons, List.not_mem_nil, or_false] at hp
            rcases hp with rfl | rfl | rfl
            · exact (hm2 _ (show [Str.ofString "wishes", Str.ofString "value", Str.ofString "mask", Str.ofString "row"].contains (Str.ofString "rows") = false by decide)).trans m1r
            · exact (hm2 _ (show [Str.ofString "wishes", Str.ofString "value", Str.ofString "mask", Str.ofString "row"].contains (Str.ofString "longer") = false by decide)).trans m1l
            · exact (hm2 _ (show [Str.ofString "wishes", Str.ofString "value", Str.ofString "mask", Str.ofString "row"].contains (Str.ofString "place") = false by decide)).trans m1p) (by
            intro z h2 h3
            exact hm2 z h3) F2
          clear F2
          simp only [List.cons_append, List.append_assoc] at N2
          k_steps
          rename Fr _ _ _ _ => F9
          obtain ⟨M2, eM⟩ := name_fr F9
          have F9' : Fr _ _ _ M2 := eM ▸ F9
          have m2l : M2 (Str.ofString "longer") = some (.ref lg) := by rw [eM]; rfl
          have m2w : M2 (Str.ofString "wishes") = some (.ref da) := by rw [eM]; rfl
          have m2p : M2 (Str.ofString "place") = some (.int 7 tb) := by rw [eM]; rfl
          have m2e : ∀ z, [Str.ofString "wishes", Str.ofString "value", Str.ofString "mask", Str.ofString "row"].contains z = false → M2 z = M1 z := by
            intro z hz
            have n1 : z ≠ Str.ofString "value" := by rintro rfl; simp at hz
            have n2 : z ≠ Str.ofString "mask" := by rintro rfl; simp at hz
            have n3 : z ≠ Str.ofString "row" := by rintro rfl; simp at hz
            have n4 : z ≠ Str.ofString "wishes" := by rintro rfl; simp at hz
            rw [eM]
            by_cases h1 : z = Str.ofString "longer"
            · subst h1; rw [m1l]; rfl
            by_cases h2 : z = Str.ofString "rows"
            · subst h2; rw [m1r]; rfl
            by_cases h3 : z = Str.ofString "place"
            · subst h3; rw [m1p]; rfl
            simp [kstB, n1, n2, n3, n4, h1, h2, h3]
          clear eM F9
          refine ForSrc.mk (nx₀ := (lg, listOf (List.toArray xs) k) :: (((I2, oI2) :: (I, oI) :: (NX ++ (tl ++ (T8 ++ tlm)))) ++ [])) (MJ3 w (NX ++ (tl ++ tlm)) ((I2, oI2) :: (I, oI) :: (NX ++ (tl ++ (T8 ++ tlm)))) lg dj 7 (y.masks 8) (mstep ((d.masked i).take j) (7, y)) M2) (show (rr, listOf rs.toArray rk) ∈ _ by k_mem) rfl F9' (News.sub (by k_asm) (by k_extra "X my sub"))
            ⟨xs, k, [], rfl, ?je3, ktn_ord0, by rw [List.take_zero, List.map_nil, List.append_nil, List.append_nil, ← List.append_assoc]; exact hA2, fun _ _ => rfl⟩ ?_ ?_ ?_
          case je3 =>
            rw [List.append_nil]
            k_extra "X my ne"
          · intro q m3 nx3 hp98 
            refine hideG fun hG9 kG9 => ?_
            obtain ⟨xs3, k3, tl3, rfl, _⟩ := hp98
            refine kG9 ?_
            clear kG9 hG9
            k_mem
          · intro q v3 m3 nx3 h3 tk3 I3 oI3 hv3 hp98 off3 F4 N4
            refine hideG fun hG9 kG9 => ?_
            obtain ⟨xs3, k3, tl3, rfl, hne3, hab3, hA3, hm3⟩ := hp98
            refine kG9 ?_
            clear kG9 hG9
            refine hideG fun hG9 kG9 => ?_
            obtain ⟨p, hp, hP⟩ := hRA.get hv3
            refine kG9 ?_
            clear kG9 hG9
            refine hideG fun hG9 kG9 => ?_
            obtain ⟨pa, pn, pt, pu, rfl, hpm⟩ := hP
            refine kG9 ?_
            clear kG9 hG9
            have F5 := frame_ps [(Str.ofString "longer", .ref lg), (Str.ofString "wishes", .ref da), (Str.ofString "place", .int 7 tb)] [Str.ofString "value", Str.ofString "mask", Str.ofString "row"] (by
              intro p hp
              simp only [List.mem_cons, List.not_mem_nil, or_false] at hp
              rcases hp with rfl | rfl | rfl
              · exact (hm3 _ (show [Str.ofString "value", Str.ofString "mask", Str.ofString "row"].contains (Str.ofString "longer") = false by decide)).trans m2l
              · exact (hm3 _ (show [Str.ofString "value", Str.ofString "mask", Str.ofString "row"].contains (Str.ofString "wishes") = false by decide)).trans m2w
              · exact (hm3 _ (show [Str.ofString "value", Str.ofString "mask", Str.ofString "row"].contains (Str.ofString "place") = false by decide)).trans m2p) (by
              intro z h2 h3
              exact hm3 z h3) F4
            clear F4
            simp only [List.cons_append, List.append_assoc] at N4
            have hx3 : xs3.length ≤ 300000 := by
              have h1 := hA3.length
              have h2 := (List.getElem?_eq_some_iff.mp hp).1
              have h3 := Nat.mul_le_mul (Nat.le_trans (Nat.le_of_eq List.length_take) (Nat.le_trans (Nat.min_le_right j _) hfc) : ((d.masked i).take j).length ≤ 1000) hml
              have h5 := List.length_take_le q (y.masks 8)
              rw [List.length_append, mstep_length, List.length_map] at h1
              have h4 : bitsOf (7, y).1 = 8 := rfl
              rw [h4] at h1
              dsimp only at h1
              omega
            cases hdk
            all_goals try (exfalso; cases hz7; done)
            all_goals k_steps
            · rename Obj.IsDictOf _ _ (_ :: _) => hd8
              rename News _ _ _ ((_, _) :: (_, _) :: (I3, oI3) :: _) => N9
              simp only [List.push_toArray] at N9
              refine hideG fun hG9 kG9 => ?_
              obtain ⟨D9, B9, oB, e1, e2, e3⟩ := name_two N9
              subst e1 e2 e3
              refine kG9 ?_
              clear kG9 hG9
              refine' ForPost.mk (by k_asm) N9 ?g1 ?g2 ⟨xs3 ++ [.ref B9], k3 + 1, tl3 ++ [(B9, oB), (D9, tupO [.str (Str.ofString "mask") _, .int p.1 pt, .int p.2 pu] 0)], rfl, ?g4, ?g5, ?g6, ?g7⟩
              case g1 => k_extra "X my sub"
              case g2 => k_extra "X my ne"
              case g4 => k_extra "X my ne"
              case g5 => k_extra "X my ord"
              case g6 =>
                rw [List.take_add_one, hp, List.map_append, ← List.append_assoc (mstep _ _)]
                refine All2.append ?gas (All2.cons ?gxs All2.nil)
                case gas => exact hA3.imp fun _ _ x => DictIn.mono x (by k_extra "X my sub")
                case gxs => refine ⟨B9, oB, _, rfl, by k_mem, by assumption, hd8, .seven (.mask (by k_mem))⟩
              case g7 =>
                intro z hz
                have n1 : z ≠ Str.ofString "value" := by rintro rfl; simp at hz
                have n2 : z ≠ Str.ofString "mask" := by rintro rfl; simp at hz
                have n3 : z ≠ Str.ofString "row" := by rintro rfl; simp at hz
                by_cases h1 : z = Str.ofString "longer"
                · subst h1; rw [m2l]; rfl
                by_cases h2 : z = Str.ofString "wishes"
                · subst h2; rw [m2w]; rfl
                by_cases h3 : z = Str.ofString "place"
                · subst h3; rw [m2p]; rfl
                simp [kstB, n1, n2, n3, h1, h2, h3, hm3 z hz]
            · rename Obj.IsDictOf _ _ (_ :: _) => hd8
              rename News _ _ _ ((_, _) :: (_, _) :: (I3, oI3) :: _) => N9
              simp only [List.push_toArray] at N9
              refine hideG fun hG9 kG9 => ?_
              obtain ⟨D9, B9, oB, e1, e2, e3⟩ := name_two N9
              subst e1 e2 e3
              refine kG9 ?_
              clear kG9 hG9
              refine' ForPost.mk (by k_asm) N9 ?hg1 ?hg2 ⟨xs3 ++ [.ref B9], k3 + 1, tl3 ++ [(B9, oB), (D9, tupO [.str (Str.ofString "mask") _, .int p.1 pt, .int p.2 pu] 0)], rfl, ?hg4, ?hg5, ?hg6, ?hg7⟩
              case hg1 => k_extra "X my sub"
              case hg2 => k_extra "X my ne"
              case hg4 => k_extra "X my ne"
              case hg5 => k_extra "X my ord"
              case hg6 =>
                rw [List.take_add_one, hp, List.map_append, ← List.append_assoc (mstep _ _)]
                refine All2.append ?gab (All2.cons ?gxb All2.nil)
                case gab => exact hA3.imp fun _ _ x => DictIn.mono x (by k_extra "X my sub")
                case gxb => refine ⟨B9, oB, _, rfl, by k_mem, by assumption, hd8, .both (WishIn.mono (by assumption) (by k_extra "X my sub")) (.mask (by k_mem))⟩
              case hg7 =>
                intro z hz
                have n1 : z ≠ Str.ofString "value" := by rintro rfl; simp at hz
                have n2 : z ≠ Str.ofString "mask" := by rintro rfl; simp at hz
                have n3 : z ≠ Str.ofString "row" := by rintro rfl; simp at hz
                by_cases h1 : z = Str.ofString "longer"
                · subst h1; rw [m2l]; rfl
                by_cases h2 : z = Str.ofString "wishes"
                · subst h2; rw [m2w]; rfl
                by_cases h3 : z = Str.ofString "place"
                · subst h3; rw [m2p]; rfl
                simp [kstB, n1, n2, n3, h1, h2, h3, hm3 z hz]
          · intro m3 nx3 h3 tk3 hp98 F4 N4
            refine hideG fun hG9 kG9 => ?_
            obtain ⟨xs3, k3, tl3, rfl, hne3, hab3, hA3, hm3⟩ := hp98
            refine kG9 ?_
            clear kG9 hG9
            dsimp only
            simp only [List.cons_append, List.append_assoc] at N4
            have hrl := hRA.length
            k_steps
            refine' ForPost.mk (by k_asm) N4 ?f1 ?f2 ⟨xs3, k3, tlm ++ tl3, rfl, ?f4, ?f5, ?f6, ?f7⟩
            case f1 => k_extra "X my sub"
            case f2 => k_extra "X my ne"
            case f4 => k_extra "X my ne"
            case f5 => k_extra "X my ord"
            case f6 =>
              rw [hrl, List.take_length] at hA3
              have e : mstep ((d.masked i).take (j + 1)) (7, y) = mstep ((d.masked i).take j) (7, y) ++ (y.masks 8).map fun p => dj.set 7 (.mask p.1 p.2) := by
                rw [List.take_add_one, hdj]
                unfold mstep
                rw [List.flatMap_append]
                simp [hbit]
              rw [e]
              exact hA3.imp fun _ _ x => DictIn.mono x (by k_extra "X my sub")
            case f7 =>
              intro z hz
              refine (hm3 z ?_).trans (m2e z hz)
              simp only [List.contains_cons, List.contains_nil, Bool.or_false, Bool.or_eq_false_iff] at hz ⊢
              exact hz.2
        · intro m2 nx2 h2 tk2 hp98 F2 N2
          refine hideG fun hG9 kG9 => ?_
          obtain ⟨xs, k, tlm, rfl, hne2, hab2, hA2, hm2⟩ := hp98
          refine kG9 ?_
          clear kG9 hG9
          have F3 := frame_ps [(Str.ofString "longer", .ref lg)] [Str.ofString "wishes", Str.ofString "value", Str.ofString "mask", Str.ofString "row"] (by
            intro p hp
            simp only [List.mem_cons, List.not_mem_nil, or_false] at hp
            rcases hp with rfl
            exact (hm2 _ (show [Str.ofString "wishes", Str.ofString "value", Str.ofString "mask", Str.ofString "row"].contains (Str.ofString "longer") = false by decide)).trans m1l) (by
            intro z h2 h3
            exact hm2 z h3) F2
          clear F2
          dsimp only
          simp only [List.cons_append, List.append_assoc] at N2
          have hrl := hRA.length
          have hcm : ((fs.length : Int) * (rs.length : Int)) ≤ most := by omega
          k_steps
          rename News _ _ _ ((lg, _) :: (I, oI) :: _) => N9
          refine' ForPost.mk (by k_asm) N9 ?u1 ?u2 ⟨lg, k, xs, tl ++ (T8 ++ (tlm ++ [(lg, listOf xs.toArray k)])), rfl, ?u3, rfl, ?u4, ?u5, ?u6, ?u7⟩
          case u1 => k_extra "X my sub"
          case u2 => k_extra "X my ne"
          case u3 => k_extra "X my ord"
          case u4 => k_mem
          case u5 =>
            rw [hfl, List.take_length] at hA2
            rw [masked_succ hq]
            exact hA2.imp fun _ _ x => DictIn.mono x (by k_extra "X my sub")
          case u6 =>
            intro _
            rw [masked_succ hq, mstep_length, Int.natCast_mul, ← hfl]
            have e : bitsOf (7, y).1 = 8 := rfl
            rw [e, ← hrl]
            exact hcm
          case u7 =>
            intro z hz
            have n1 : z ≠ Str.ofString "found" := by rintro rfl; simp at hz
            have n2 : z ≠ Str.ofString "longer" := by rintro rfl; simp at hz
            have n3 : z ≠ Str.ofString "wishes" := by rintro rfl; simp at hz
            have n4 : z ≠ Str.ofString "value" := by rintro rfl; simp at hz
            have n5 : z ≠ Str.ofString "mask" := by rintro rfl; simp at hz
            have n6 : z ≠ Str.ofString "row" := by rintro rfl; simp at hz
            simp [kstB, n1, n2, n3, n4, n5, n6]
            exact m1e z hz
  · intro m nx h tk hp98 F1 N1
    refine hideG fun hG9 kG9 => ?_
    obtain ⟨f, n, fs, tl, rfl, hab, hfo, hfm, hfs, hle, hm1⟩ := hp98
    refine kG9 ?_
    clear kG9 hG9
    have F2 := frame_ps [(Str.ofString "found", .ref f)] [Str.ofString "place", Str.ofString "wish", Str.ofString "rows", Str.ofString "longer", Str.ofString "wishes", Str.ofString "value", Str.ofString "mask", Str.ofString "row"] (by
      intro p hp
      simp only [List.mem_cons, List.not_mem_nil, or_false] at hp
      rcases hp with rfl
      exact hfo) (by
      intro z h2 h3
      refine hm1 z ?_
      have := h2 _ (.head _)
      simp only [List.contains_cons, List.contains_nil, Bool.or_false, Bool.or_eq_false_iff, beq_eq_false_iff_ne, ne_eq] at h3 ⊢
      exact ⟨this, h3⟩) F1
    clear F1
    have hmc : d.maskeds.length ≤ 1000 := masked_few hvl hle hm2
    have hMO : MOk d most := masked_MOk hvl hle
    rw [hvl, masked_all] at hfs
    simp only [List.cons_append, List.append_assoc] at N1
    dsimp only
    k_steps
    have okm := maskeds_okG ok
    refine' CSrc.list (vs := fs) (fun i ys l => ys.length ≤ i ∧ All2 (RuleIn w act l) ys (d.maskeds.take i)) ?hmz rfl (by assumption) (by assumption) (by decide) rfl (by intro g h; cases h) ⟨Nat.le_refl _, .nil⟩ ?_ ?_
    case hmz => k_mem
    · intro i v ys tl5 h5 tk5 I oI oC C D mC hv hp ho b3 off tr F5 hC5 N5
      refine hideG fun hG9 kG9 => ?_
      obtain ⟨dj, hq, hR⟩ := hfs.get hv
      refine kG9 ?_
      clear kG9 hG9
      obtain ⟨_, e9⟩ := hR.isRef
      subst e9
      have okd := okm _ (List.mem_of_getElem? hq)
      refine CTurn.map rfl rfl tr off F5 hC5 N5 ?_
      intro h6 oC6 mC6 tk6 E6 F6 hC6 hx6 N6
      (repeat' ((fail_if_success (with_reducible show CEnd _ _ _ _ _ _ _ _ _ _)); (fail_if_success (with_reducible show CEndY _ _ _ _ _ _ _ _ _ _ _)); first | (k_unfold; (try dsimp only)) | (k_end; kc_close) | walk1 | (dsimp only; walk1) | (leave1; walk_say "STEP leave1"; (try dsimp only)) | fail "no step"))
      rename Led => T6
      (refine' CEndY.mk (tl' := T6) ?c1 ?c2 ?c3 ?c4 ?c5 ?c6 ?c8 ?c7 ?_; (case c1 => k_asm); (case c2 => assumption); (case c3 => k_asm); (case c5 => assumption); (case c6 => assumption); (case c4 => k_extra "X my sub"); (case c8 => k_extra "X my ord"))
      case c7 =>
        have := (List.getElem?_eq_some_iff.mp hq).1
        rw [sizeLine_eq]; omega
      · refine ⟨by simp; omega, ?_⟩
        rw [List.take_add_one, hq]
        refine All2.append ?zz1 (All2.cons ?zz2 All2.nil)
        case zz1 => exact hp.2.imp fun _ _ h => h.mono (by k_extra "X my sub")
        case zz2 => exact RuleIn.mono (by assumption) (by k_extra "X my sub")
    · intro D ys tl5 h5 tk5 hp ho hD h6 F6 N6
      obtain ⟨hp1, hp2⟩ := hp
      rw [hfs.length, List.take_length] at hp2
      simp only [List.cons_append, List.append_assoc] at N6
      k_steps
      (refine' hret _ ((D, lst ys) :: (l9, listOf (List.toArray [.ref d9]) 0) :: (d9, q9) :: (L' + 1, p9) :: (T9 ++ (tl ++ tl5))) _ _ ?e1 ?e2 ?e3 ?_; (case e1 => k_asm); (case e2 => exact News.sub (by k_asm) (by k_extra "X my sub")); (case e3 => k_extra "X my ord"))
      exact ⟨⟨D, _, ys, rfl, by k_mem, hp2.imp fun _ _ h => h.mono (by k_extra "X my sub")⟩, hMO⟩

theorem off_F24 : True := by
  k_with "off F24" => skip
  trivial
end
section
theorem anew_F27 : True := by
  w_top off
  trivial
theorem kw24 : True := by
  k_with "X call ref" => ((fail_if_success k_extra "off F27"); ((k_here; (with_reducible show wpAny _ _ (call (Value.ref 100) _) _ _ _); k_dflt (refine' Says.use (rows_says' ?h0z94) ?kBz94 ?kFz94 ?kXz94 ?kNz94 ?kTz94 ?kKz94 ?kDz94 ?kUz94 ?_; (case kBz94 => k_asm); (case kFz94 => k_asm); (case kXz94 => k_asm); (case kNz94 => k_asm); (case kTz94 => k_asm); (case kKz94 => first | exact rfl | assumption); (case kDz94 => ktr_room); (case kUz94 => ktr_units)); (case h0z94 => exact RuleIn.mono (by assumption) (by k_extra "X my sub")); intro r9z94 tl9z94 h9z94 tk9z94 F9z94 N9z94 o9z94 p9z94; (try replace p9z94 := TPost.get p9z94); (try dsimp only [List.nil_append, List.cons_append] at N9z94); (try simp only [List.nil_append, List.cons_append, List.append_nil, List.append_assoc] at N9z94); (try dsimp only [List.nil_append, List.cons_append] at p9z94); (try simp only [List.nil_append, List.cons_append, List.append_nil, List.append_assoc] at p9z94); (revert p9z94; with_reducible apply ListIn.imp; intro c9z94 n9z94 v9z94 m9z94 a9z94; clear r9z94; have q9z94 := All2.length a9z94); (try dsimp only); (try k_fold))))
  k_with "X call type:tuple" => ((fail_if_success k_extra "off F27"); ((k_here; (with_reducible show wpAny _ _ (call (Value.type _) [Value.ref _]) _ _ _); k_dflt (refine' kde_tupleOf ?k1z95 ?k2z95 ?k3z95 ?k4z95 ?k5z95 ?_; (case k1z95 => k_asm); (case k2z95 => k_asm); (case k3z95 => exact News.isList (by k_asm) (by k_extra "X my mem")); (case k4z95 => (rw [List.size_toArray]; omega)); (case k5z95 => exact (rfl : (List.toArray _).toList = _))); intro D'z95 h'z95 F'z95 N'z95 l1z95; (try k_lt l1z95); (try k_sweep))))
  trivial
theorem told_says {w : World} {news : Led} {v : Value} {d : WD} {act : Str} (ha : RuleIn w act news v d) :
   Says w 114 5 64 news [v] (TPost news [] fun tl r => ToldT act news tl r d.entries) := by
  obtain ⟨x, dx, tt, t1, t2, wv, rfl, hx, hdx, hwv⟩ := id ha
  have hel := WD.entries_len d
  (unfold Says; intro mean mg mb dp un gd cn cs a ccd cl outer A₀ base h₀ L m s Q E B F X N T hk hd hu hret; refine wpAny_call ?_; k_dflt ktr_enter)
  k_steps
  rename News _ _ _ ((_, _) :: (_, _) :: (news ++ _)) => N9
  obtain ⟨D9, B9, oB, e1, e2, e3⟩ := name_two N9
  subst e1 e2 e3
  rename Led => T9
  rename All2 _ _ _ => hA
  (refine' hret _ (T9 ++ [(B9, _), (D9, _)]) _ _ ?e1 ?e2 ?e3 ?_; (case e1 => k_asm); (case e2 => exact News.sub (by k_asm) (by k_extra "X my sub")); (case e3 => k_extra "X my ord"))
  exact TPost.mk ⟨D9, B9, 0, 0, tt, _, rfl, List.mem_append_right [] (List.mem_append_right T9 (.tail _ (.head _))), List.mem_append_right [] (List.mem_append_right T9 (.head _)), hA.imp fun _ _ x => EntryIn.mono x (by k_extra "X my sub")⟩

theorem off_F27 : True := by
  k_with "off F27" => skip
  trivial
end
section
theorem anew_F28 : True := by
  w_top off
  trivial
theorem rule_drop {w : World} {news n0 : Led} {v : Value} {d : WD} {t : Tok} (hd : DictIn w n0 v d) (hn0 : ∀ p ∈ n0, p ∈ news) (ok : WD.ok d) :
   Says w 117 4 64 news [.str (Str.ofString "drop") t, v] (TPost news n0 fun l r => RuleIn w (Str.ofString "drop") l r d) := rule_new (.inr rfl) hd hn0 ok.g
theorem masked_64 {w : World} {news : Led} {v : Value} {d : WD} {t : Tok} (ha : RuleIn w (Str.ofString "drop") news v d) (ok : WD.ok d) :
   Says w 189 6 128 news [v, .int 64 t] (fun l r => ListIn (RuleIn w (Str.ofString "drop")) l r d.maskeds) := ((masked_both (.inr rfl) ha ok (by decide)).says (fun h => h (MOk64 ok))).weaken fun _ _ h => h.1
theorem kw25 : True := by
  k_with "X call ref" => ((fail_if_success k_extra "off F28"); ((k_here; (with_reducible show wpAny _ _ (call (Value.ref 117) _) _ _ _); k_dflt (refine' Says.use (rule_drop ?h0z96 ?hsz96 ?h1z96) ?kBz96 ?kFz96 ?kXz96 ?kNz96 ?kTz96 ?kKz96 ?kDz96 ?kUz96 ?_; (case kBz96 => k_asm); (case kFz96 => k_asm); (case kXz96 => k_asm); (case kNz96 => k_asm); (case kTz96 => k_asm); (case kKz96 => first | exact rfl | assumption); (case kDz96 => ktr_room); (case kUz96 => ktr_units)); ((case h0z96 => assumption); (case hsz96 => k_extra "X my sub"); (case h1z96 => assumption)); intro r9z96 tl9z96 h9z96 tk9z96 F9z96 N9z96 o9z96 p9z96; (try replace p9z96 := TPost.get p9z96); (try dsimp only [List.nil_append, List.cons_append] at N9z96); (try simp only [List.nil_append, List.cons_append, List.append_nil, List.append_assoc] at N9z96); (try dsimp only [List.nil_append, List.cons_append] at p9z96); (try simp only [List.nil_append, List.cons_append, List.append_nil, List.append_assoc] at p9z96); (revert p9z96; with_reducible apply RuleIn.imp; intro c9z96 p9z96; clear r9z96); (try dsimp only); (try k_fold))))
  k_with "X call ref" => ((fail_if_success k_extra "off F28"); ((k_here; (with_reducible show wpAny _ _ (call (Value.ref 239) _) _ _ _); k_dflt (refine' Says.use (lots_says ?h0z97) ?kBz97 ?kFz97 ?kXz97 ?kNz97 ?kTz97 ?kKz97 ?kDz97 ?kUz97 ?_; (case kBz97 => k_asm); (case kFz97 => k_asm); (case kXz97 => k_asm); (case kNz97 => k_asm); (case kTz97 => k_asm); (case kKz97 => first | exact rfl | assumption); (case kDz97 => ktr_room); (case kUz97 => ktr_units)); (case h0z97 => exact DictIn.mono (by assumption) (by k_extra "X my sub")); intro r9z97 tl9z97 h9z97 tk9z97 F9z97 N9z97 o9z97 p9z97; (try replace p9z97 := TPost.get p9z97); (try dsimp only [List.nil_append, List.cons_append] at N9z97); (try simp only [List.nil_append, List.cons_append, List.append_nil, List.append_assoc] at N9z97); (try dsimp only [List.nil_append, List.cons_append] at p9z97); (try simp only [List.nil_append, List.cons_append, List.append_nil, List.append_assoc] at p9z97); (revert p9z97; with_reducible apply LotIn.imp; intro c9z97 p9z97; clear r9z97); (try dsimp only); (try k_fold))))
  k_with "X call ref" => ((fail_if_success k_extra "off F28"); ((k_here; (with_reducible show wpAny _ _ (call (Value.ref 189) _) _ _ _); k_dflt (refine' Says.use (masked_64 ?h0z98 ?h1z98) ?kBz98 ?kFz98 ?kXz98 ?kNz98 ?kTz98 ?kKz98 ?kDz98 ?kUz98 ?_; (case kBz98 => k_asm); (case kFz98 => k_asm); (case kXz98 => k_asm); (case kNz98 => k_asm); (case kTz98 => k_asm); (case kKz98 => first | exact rfl | assumption); (case kDz98 => ktr_room); (case kUz98 => ktr_units)); ((case h0z98 => exact RuleIn.mono (by assumption) (by k_extra "X my sub")); (case h1z98 => assumption)); intro r9z98 tl9z98 h9z98 tk9z98 F9z98 N9z98 o9z98 p9z98; (try replace p9z98 := TPost.get p9z98); (try dsimp only [List.nil_append, List.cons_append] at N9z98); (try simp only [List.nil_append, List.cons_append, List.append_nil, List.append_assoc] at N9z98); (try dsimp only [List.nil_append, List.cons_append] at p9z98); (try simp only [List.nil_append, List.cons_append, List.append_nil, List.append_assoc] at p9z98); (revert p9z98; with_reducible apply ListIn.imp; intro c9z98 n9z98 v9z98 m9z98 a9z98; clear r9z98; have q9z98 := All2.length a9z98); (try dsimp only); (try k_fold))))
  k_with "X call ref" => ((fail_if_success k_extra "off F28"); ((k_here; (with_reducible show wpAny _ _ (call (Value.ref 189) [_, Value.int (_ - 1) _]) _ _ _); refine mask_stop ?_)))
  k_with "X call ref" => ((fail_if_success k_extra "off F28"); ((k_here; (with_reducible show wpAny _ _ (call (Value.ref 114) _) _ _ _); k_dflt (refine' Says.use (told_says ?h0z100) ?kBz100 ?kFz100 ?kXz100 ?kNz100 ?kTz100 ?kKz100 ?kDz100 ?kUz100 ?_; (case kBz100 => k_asm); (case kFz100 => k_asm); (case kXz100 => k_asm); (case kNz100 => k_asm); (case kTz100 => k_asm); (case kKz100 => first | exact rfl | assumption); (case kDz100 => ktr_room); (case kUz100 => ktr_units)); (case h0z100 => exact RuleIn.mono (by assumption) (by k_extra "X my sub")); intro r9z100 tl9z100 h9z100 tk9z100 F9z100 N9z100 o9z100 p9z100; (try replace p9z100 := TPost.get p9z100); (try dsimp only [List.nil_append, List.cons_append] at N9z100); (try simp only [List.nil_append, List.cons_append, List.append_nil, List.append_assoc] at N9z100); (try dsimp only [List.nil_append, List.cons_append] at p9z100); (try simp only [List.nil_append, List.cons_append, List.append_nil, List.append_assoc] at p9z100); (obtain ⟨ta9z100, tT9z100, _, _, _, tvs9z100, e9z100, tm9z100, tn9z100, ti9z100⟩ := p9z100; subst e9z100); (try dsimp only); (try k_fold))))
  k_with "X call ref" => ((fail_if_success k_extra "off F28"); ((k_here; (with_reducible show wpAny _ _ (call (Value.ref 244) _) _ _ _); k_dflt (refine' Says.use (law_is_within_says ?h0z101 ?h1z101 ?h2z101) ?kBz101 ?kFz101 ?kXz101 ?kNz101 ?kTz101 ?kKz101 ?kDz101 ?kUz101 ?_; (case kBz101 => k_asm); (case kFz101 => k_asm); (case kXz101 => k_asm); (case kNz101 => k_asm); (case kTz101 => k_asm); (case kKz101 => first | exact rfl | assumption); (case kDz101 => ktr_room); (case kUz101 => ktr_units)); ((case h0z101 => exact LotIn.mono (by assumption) (by k_extra "X my sub")); (case h1z101 => exact LotIn.mono (by assumption) (by k_extra "X my sub")); (case h2z101 => assumption)); intro r9z101 tl9z101 h9z101 tk9z101 F9z101 N9z101 o9z101 p9z101; (try replace p9z101 := TPost.get p9z101); (try dsimp only [List.nil_append, List.cons_append] at N9z101); (try simp only [List.nil_append, List.cons_append, List.append_nil, List.append_assoc] at N9z101); (try dsimp only [List.nil_append, List.cons_append] at p9z101); (try simp only [List.nil_append, List.cons_append, List.append_nil, List.append_assoc] at p9z101); (rename lotsWithin _ _ = true => hw8z101; rw [hw8z101] at p9z101; subst p9z101); (try dsimp only); (try k_fold))))
  k_with "X my clear" => ((fail_if_success k_extra "off F28"); (repeat (rename ∀ q ∈ _, ∀ p ∈ _, (_ : Nat) < _ => o9z102; clear o9z102)))
  k_with "X subscriptTail" => ((fail_if_success k_extra "off F28"); ((k_here; (with_reducible show wpAny _ _ (subscriptTail _ _ (Value.ref _) (Value.int _ _)) _ _ _); k_dflt (refine' item_led ?itLz103 ?itKz103 ?itXz103 ?itZz103 ?_; (case itLz103 => exact News.isList (by k_asm) (by k_extra "X my mem0")); (case itKz103 => first | exact (rfl : (0 : Int) = ((0 : Nat) : Int)) | exact (rfl : (1 : Int) = ((1 : Nat) : Int))); (case itXz103 => exact rfl); (case itZz103 => exact Nat.le_of_ble_eq_true rfl)))))
  k_with "X call type:dict" => ((fail_if_success k_extra "off F28"); ((k_here; (with_reducible show wpAny _ _ (call (Value.type "dict") [Value.ref _]) _ _ _); k_dflt (refine' dict_pairs_led ?dpAz104 ?dpuz104 ?dpFz104 ?dpNz104 ?dpbz104 ?dpmz104 ?dpvz104 ?dpnz104 ?dpzz104 ?_; (case dpAz104 => exact rfl); (case dpuz104 => ktr_units); (case dpFz104 => k_asm); (case dpNz104 => k_asm); (case dpbz104 => exact modules_low (Top.nolimit (by k_asm))); (case dpmz104 => k_extra "X my mem"); (case dpvz104 => assumption); (case dpnz104 => assumption); (case dpzz104 => omega)); intro D'z104 o'z104 h'z104 tk'z104 F'z104 N'z104 l1z104 s9z104 d9z104; (try k_lt l1z104); (try k_sweep))))
  k_with "X call builtin:len" => ((fail_if_success k_extra "off F28"); ((k_here; (with_reducible show wpAny _ _ (call (Value.builtin "len") [Value.ref _]) _ _ _); k_dflt (refine' len_dictP ?dlNz105 ?dlmz105 ?dlsz105 ?dllz105 ?dlzz105 ?_; (case dlNz105 => k_asm); (case dlmz105 => k_extra "X my mem0"); (case dlsz105 => with_reducible assumption); (case dllz105 => with_reducible assumption); (case dlzz105 => omega)))))
  trivial
theorem masked_right_says {w : World} {news : Led} {v : Value} {d : WD} (ha : DictIn w news v d) (ok : WD.ok d) :
   SaysT w 261 9 300 news [v] (.bool true) := by
  refine hideG fun hG9 kG9 => ?_
  obtain ⟨dw, odw, kvs, rfl, hdm, hds, hdo, hdk⟩ := id ha
  refine kG9 ?_
  clear kG9 hG9
  have hml := maskeds_len ok
  (unfold SaysT; intro mean mg mb dp un gd cn cs a ccd cl outer A₀ base h₀ L m s Q E B F Xb N Tb hk hd hu hret; have XT := Hid.mk (And.intro Xb Tb); have X := Xb.keeps B.stays; have T := Tb.keeps B.stays; clear Xb Tb; refine wpAny_call ?_; k_dflt (refine' code_defT ?k1 ?k2 ?k3 ?k4 ?k5 ?kA ?kF ?kK ?k6 ?k7 ?k8 ?k9 ?kB ?kD ?_ ?c2 ?c3 ?c4; (case kA => exact rfl); (case kF => exact rfl); (case kK => assumption); (case k1 => k_asm); (case k2 => k_asm); (case k3 => k_asm); (case k4 => k_asm); (case k5 => k_asm); (case k6 => k_is); (case k7 => k_is); (case k8 => ktr_room); (case k9 => exact BindsTo.of_eq rfl); (case kB => exact rfl); (case kD => decide +kernel); (case c2 => exact rfl); (case c3 => exact rfl); (case c4 => exact rfl); k_whole; intro g' L' h' tk' cells' FG' F' N' Y' B' X' T' l1; (have l1a := lt_plus 1 l1); (have l1b := lt_plus 2 l1); (have l1c := lt_plus 3 l1); (have l1d := lt_plus 4 l1); k_cells Y'; (try simp only [List.cons_append, List.nil_append] at N'); (try dsimp only); (try k_lift B'); (try k_fold)))
  k_steps
  rename LotIn _ _ _ => hW
  refine hideG fun hG9 kG9 => ?_
  obtain ⟨wa, wn, wx, wy, e1, hwm, hWx, hWy⟩ := id hW
  refine kG9 ?_
  clear kG9 hG9
  refine hideG fun hG9 kG9 => ?_
  obtain ⟨xa, xn, xs, e2, hxm, hxi⟩ := hWx
  subst e2
  refine kG9 ?_
  clear kG9 hG9
  refine hideG fun hG9 kG9 => ?_
  obtain ⟨ya, yn, ys0, e2, hym, hyi⟩ := hWy
  subst e2
  refine kG9 ?_
  clear kG9 hG9
  have e1 := (Value.ref.inj e1).symm
  subst e1
  rename All2 _ _ _ => hM
  rename (_, listOf (List.toArray _) _) ∈ (_, _) :: _ => hMm
  refine hideG fun hG9 kG9 => ?_
  obtain ⟨fa, fs, fn, e1, e2, e3⟩ := name_mem hMm
  subst e1 e2 e3
  refine kG9 ?_
  clear kG9 hG9
  rename News _ _ _ ((_, _) :: (_, _) :: (news ++ _)) => N9
  refine hideG fun hG9 kG9 => ?_
  obtain ⟨NX, cW, e1, eNX⟩ := name_top N9
  subst e1
  refine kG9 ?_
  clear kG9 hG9
  have N8 := N9
  rw [← eNX] at N8
  have kM : All2 (RuleIn w (Str.ofString "drop") NX) fs d.maskeds := by rw [eNX]; exact hM.imp fun _ _ x => RuleIn.monoC x (by k_extra "X my subC")
  have mM : (fa, listOf (List.toArray fs) fn) ∈ NX := by rw [eNX]; exact mem_subC hMm (fun z9 e9 => nomatch e9) (by k_extra "X my subC")
  have kW : LotIn NX (.ref wa) d.lots := by rw [eNX]; exact LotIn.mono hW (by k_extra "X my sub")
  have mW : (wa, listOf [.ref xa, .ref ya].toArray wn) ∈ NX := by rw [eNX]; k_mem
  have mX : (xa, listOf xs.toArray xn) ∈ NX := by rw [eNX]; k_mem
  have mY : (ya, listOf ys0.toArray yn) ∈ NX := by rw [eNX]; k_mem
  have mC : (L' + 1, cW) ∈ NX := by rw [eNX]; k_mem
  have kD : DictIn w NX (.ref dw) d := by rw [eNX]; exact DictIn.mono ha (by k_extra "X my sub")
  have mD : (dw, odw) ∈ NX := by rw [eNX]; k_mem
  rename Fr _ _ _ _ => F9
  obtain ⟨M0, eM⟩ := name_fr F9
  have F8 : Fr _ _ _ M0 := eM ▸ F9
  have m0f : M0 (Str.ofString "found") = some (.ref fa) := by rw [eM]; rfl
  have m0w : M0 (Str.ofString "wishes") = some (.ref dw) := by rw [eM]; rfl
  rw [← eM]
  clear eM F9 N9 eNX hM hMm hW hwm hxm hym l1 l1a l1b l1c l1d
  k_extra "X my clear"
  have hxl : xs.length = d.lot4.length := hxi.length
  have hyl0 : ys0.length = d.lot7.length := hyi.length
  have hb4 : d.lot4.length ≤ 256 := WD.lots_len d 0
  have hb7 : d.lot7.length ≤ 256 := WD.lots_len d 1
  refine' CSrc.list (nx₀ := NX) (fun i ys l => ys.length ≤ i ∧ All2 (fun v d => LotIn l v (WD.lots d)) ys (d.maskeds.take i)) mM rfl F8 N8 (by decide) rfl (by intro g h; cases h) ⟨Nat.le_refl _, .nil⟩ ?_ ?_
  · intro i v ys tl h tk I oI oC C D mC hv hp ho b3 off tr F1 hC1 N1
    refine hideG fun hG9 kG9 => ?_
    obtain ⟨di, hq, hR⟩ := kM.get hv
    refine kG9 ?_
    clear kG9 hG9
    refine hideG fun hG9 kG9 => ?_
    obtain ⟨x, dx, tt, t1, t2, wv, rfl, hx, hdx, hwv⟩ := id hR
    refine kG9 ?_
    clear kG9 hG9
    obtain ⟨_, e9⟩ := hwv.isRef
    subst e9
    refine CTurn.map rfl rfl tr off F1 hC1 N1 ?_
    intro h2 oC2 mC2 tk2 E2 F2 hC2 hx2 N2
    (repeat' ((fail_if_success (with_reducible show CEnd _ _ _ _ _ _ _ _ _ _)); (fail_if_success (with_reducible show CEndY _ _ _ _ _ _ _ _ _ _ _)); first | (k_unfold; (try dsimp only)) | (k_end; kc_close) | walk1 | (dsimp only; walk1) | (leave1; walk_say "STEP leave1"; (try dsimp only)) | fail "no step"))
    rename Led => T9
    (refine' CEndY.mk (tl' := T9) ?c1 ?c2 ?c3 ?c4 ?c5 ?c6 ?c8 ?c7 ?_; (case c1 => k_asm); (case c2 => assumption); (case c3 => k_asm); (case c5 => assumption); (case c6 => assumption); (case c4 => k_extra "X my sub"); (case c8 => k_extra "X my ord"))
    case c7 =>
      have := (List.getElem?_eq_some_iff.mp hq).1
      rw [sizeLine_eq]; omega
    · refine ⟨by simp; omega, ?_⟩
      rw [List.take_add_one, hq]
      exact (hp.2.imp fun _ _ h => h.mono (by k_extra "X my sub")).append (.cons (LotIn.mono (by assumption) (by k_extra "X my sub")) .nil)
  · intro D ys tl h tk hp ho hD h2 tk2 F2 N2
    obtain ⟨hp1, hp2⟩ := hp
    have hfl := kM.length
    rw [hfl, List.take_length] at hp2
    k_steps
    obtain ⟨NX2, eN⟩ : ∃ NX2, NX2 = ((D, lst ys) :: (NX ++ tl)) := ⟨_, rfl⟩
    have hs2 : ∀ q ∈ NX, q ∈ NX2 := by rw [eN]; k_extra "X my sub"
    have N3 := N2
    rw [← eN] at N3
    have mL : (D, lst ys) ∈ NX2 := by rw [eN]; exact .head _
    have kL : All2 (fun v d => LotIn NX2 v d.lots) ys d.maskeds := by rw [eN]; exact hp2.imp fun _ _ h => h.mono (by k_extra "X my sub")
    obtain ⟨M1, eM⟩ := name_fr F2
    have m1f : M1 (Str.ofString "found") = some (.ref fa) := by rw [eM]; exact m0f
    have m1w : M1 (Str.ofString "wishes") = some (.ref dw) := by rw [eM]; exact m0w
    have m1l : M1 (Str.ofString "lots") = some (.ref D) := by rw [eM]; rfl
    have eK := map_ps3 m1l m1f m1w
    rw [← eM, ← eK]
    have F3 := F2
    rw [← eM, ← eK] at F3
    replace kM := kM.imp fun _ _ x => RuleIn.mono x hs2
    replace mM := hs2 _ mM
    replace kW := kW.mono hs2
    replace mW := hs2 _ mW
    replace mX := hs2 _ mX
    replace mY := hs2 _ mY
    replace mC := hs2 _ mC
    replace kD := kD.mono hs2
    replace mD := hs2 _ mD
    have hyl := kL.length
    clear eK eM F2 N2 eN ho hD hp2 hs2 F8 N8 m0f m0w
    refine' CSrc.list (nx₀ := NX2) (vs := ys) (fun i zs _ => zs.length ≤ i ∧ IntsAre zs ((d.maskeds.take i).map fun e => (e.lot4.length : Int) * (e.lot7.length : Int))) mL rfl F3 N3 (by decide) rfl (by intro g h; cases h) ⟨Nat.le_refl _, .nil⟩ ?_ ?_
    · intro i v zs tl3 h3 tk3 I oI oC C D3 mC3 hv hp ho3 b3 off tr F4 hC4 N4
      refine hideG fun hG9 kG9 => ?_
      obtain ⟨di, hq, hR⟩ := kL.get hv
      refine kG9 ?_
      clear kG9 hG9
      refine hideG fun hG9 kG9 => ?_
      obtain ⟨la, ln, lx, ly, e1, hlm, ⟨pa, pn, ps, e2, hpm, hpi⟩, ⟨qa, qn, qs, e3, hqm, hqi⟩⟩ := hR
      subst e1 e2 e3
      refine kG9 ?_
      clear kG9 hG9
      have hpl := hpi.length
      have hql := hqi.length
      have hb1 := WD.lots_len di 0
      have hb2 := WD.lots_len di 1
      replace hb1 : di.lots.1.length ≤ 256 := hb1
      replace hb2 : di.lots.2.length ≤ 256 := hb2
      refine CTurn.mapL2 rfl (List.mem_append_left _ hlm) rfl rfl rfl (by decide) tr off F4 hC4 N4 ?_
      intro h5 oC5 mC5 tk5 E5 F5 hC5 hx5 hy5 N5
      (repeat' ((fail_if_success (with_reducible show CEnd _ _ _ _ _ _ _ _ _ _)); (fail_if_success (with_reducible show CEndY _ _ _ _ _ _ _ _ _ _ _)); first | (k_unfold; (try dsimp only)) | (k_end; kc_close) | walk1 | (dsimp only; walk1) | (leave1; walk_say "STEP leave1"; (try dsimp only)) | fail "no step"))
      (refine' CEndY.mk (tl' := []) ?c1 ?c2 ?c3 ?c4 ?c5 ?c6 ktn_ord0 ?c7 ?_; (case c1 => k_asm); (case c2 => assumption); (case c3 => k_asm); (case c5 => assumption); (case c6 => assumption); (case c4 => k_extra "X my sub"))
      case c7 =>
        have := (List.getElem?_eq_some_iff.mp hq).1
        rw [sizeLine_eq]; omega
      · refine ⟨by simp; omega, ?_⟩
        rw [List.take_add_one, hq, List.map_append]
        have e : ((ps.length : Int) * (qs.length : Int)) = (di.lot4.length : Int) * (di.lot7.length : Int) := by rw [hpl, hql]; rfl
        show IntsAre _ (_ ++ [(di.lot4.length : Int) * (di.lot7.length : Int)])
        rw [← e]
        exact IntsAre_snoc hp.2
    · intro D3 zs tl3 h3 tk3 hp3 ho3 hD3 h4 F4 N4
      obtain ⟨hp31, hp32⟩ := hp3
      rw [hyl, List.take_length] at hp32
      k_steps
      · exfalso
        rename _ ≠ _ => q9
        exact q9 (by rw [sums_law ok, hxl, hyl0])
      · k_steps
        have N6 : News g' L' _ NX2 := News.sub (by k_asm) (by k_extra "X my sub")
        refine' CSrc.list (nx₀ := NX2) (fun _ rs _ => rs = []) mM rfl (by assumption) N6 (by decide) rfl (by intro g h; cases h; rfl) rfl ?_ ?_
        · intro i v rs tl5 h5 tk5 I oI oC C D5 mC5 hv hp ho5 b3 off tr F5 hC5 N5
          subst hp
          refine hideG fun hG9 kG9 => ?_
          obtain ⟨di, hq, hR⟩ := kM.get hv
          refine kG9 ?_
          clear kG9 hG9
          have hR' := hR
          refine hideG fun hG9 kG9 => ?_
          obtain ⟨x, dx, tt, t1, t2, wv, e9, hx, hdx, hwv⟩ := hR'
          subst e9
          refine kG9 ?_
          clear kG9 hG9
          have ham := all_masks (List.mem_of_getElem? hq)
          intro E5
          refine assign_comp rfl rfl tr off F5 hC5 N5 ?_
          intro h6 oC6 mC6 F6 hC6 hx6 hr6 N6
          refine wpAny_tests_nil ?_
          rw [if_pos rfl]
          refine emit_nextT rfl (by intro g h; cases h) ?_ (by intro _; rfl)
          (repeat' ((fail_if_success (with_reducible show CEnd _ _ _ _ _ _ _ _ _ _)); (fail_if_success (with_reducible show CEndY _ _ _ _ _ _ _ _ _ _ _)); first | (k_unfold; (try dsimp only)) | (k_end; kc_close) | walk1 | (dsimp only; walk1) | (leave1; walk_say "STEP leave1"; (try dsimp only)) | fail "no step"))
          rename All2 (EntryIn _) _ _ => hTE
          rename (_, tupO _ _) ∈ _ => hTm
          rename ∀ q ∈ _, ∀ p ∈ _, (_ : Nat) < _ => o9
          refine' NSrcT.mkCJ (fun _ rs => rs = []) ?n1 ?n2 rfl ⟨_, _, rfl⟩ off ho5 o9 ?n3 ?n4 ?n5 hC6 tr rfl ?n6 ?n7
          case n1 => k_asm
          case n2 => k_asm
          case n3 => k_extra "X my sub"
          case n4 => k_extra "X my sub"
          case n5 => exact List.mem_append_right _ (List.mem_append_right _ hTm)
          case n7 => exact fun _ q => q
          case n6 =>
            intro j v rs h7 tk7 I7 oI7 oC7 mC7 hv7 hj7 hlt7 off1 off2 tr7 F7 hC7 N7
            subst hj7
            refine hideG fun hG9 kG9 => ?_
            obtain ⟨⟨k7, y7⟩, hq7, hE7⟩ := hTE.get hv7
            refine kG9 ?_
            clear kG9 hG9
            refine hideG fun hG9 kG9 => ?_
            obtain ⟨v7, m7, e7⟩ := ham _ (List.mem_of_getElem? hq7)
            refine kG9 ?_
            clear kG9 hG9
            dsimp only at e7
            subst e7
            have hE8 := EntryIn.move (by simpa only [List.cons_append, List.append_assoc] using hE7) hC6
            refine hideG fun hG9 kG9 => ?_
            obtain ⟨b7, n7, t7, w7, e7, hb7, hw7⟩ := hE8
            subst e7
            refine kG9 ?_
            clear kG9 hG9
            cases hw7
            refine CTurn.filterN rfl rfl rfl tr7 off1 F7 hC7 N7 ?_
            intro h8 oC8 mC8 tk8 E8 F8 hC8 hx8 hr8 N8
            (repeat' ((fail_if_success (with_reducible show CEnd _ _ _ _ _ _ _ _ _ _)); (fail_if_success (with_reducible show CEndY _ _ _ _ _ _ _ _ _ _ _)); first | (k_unfold; (try dsimp only)) | (k_end; kc_close) | walk1 | (dsimp only; walk1) | (leave1; walk_say "STEP leave1"; (try dsimp only)) | fail "no step"))
            exact CEnd.same (by k_asm) (by assumption) (by k_asm) (by k_extra "X my sub") off1 off2 rfl
        · intro D5 rs tl5 h5 tk5 hp ho5 hD5 h6 tk6 F6 N6
          subst hp
          k_steps
          refine' CSrc.list (nx₀ := NX2) (fun _ rs _ => rs = []) mM rfl (by assumption) (News.sub (by assumption) (by k_extra "X my sub")) (by decide) rfl (by intro g h; cases h) rfl ?_ ?_
          · intro i v rs tl7 h7 tk7 I oI oC C D7 mC7 hv hp ho7 b3 off tr F7 hC7 N7
            subst hp
            refine hideG fun hG9 kG9 => ?_
            obtain ⟨di, hq, hR⟩ := kM.get hv
            refine kG9 ?_
            clear kG9 hG9
            refine hideG fun hG9 kG9 => ?_
            obtain ⟨x, dx, tt, t1, t2, wv, e9, hx, hdx, hwv⟩ := hR
            subst e9
            refine kG9 ?_
            clear kG9 hG9
            refine CTurn.filter rfl rfl tr off F7 hC7 N7 ?_
            intro h8 oC8 mC8 tk8 E8 F8 hC8 hx8 N8
            (repeat' ((fail_if_success (with_reducible show CEnd _ _ _ _ _ _ _ _ _ _)); (fail_if_success (with_reducible show CEndY _ _ _ _ _ _ _ _ _ _ _)); first | (k_unfold; (try dsimp only)) | (k_end; kc_close) | walk1 | (dsimp only; walk1) | (leave1; walk_say "STEP leave1"; (try dsimp only)) | fail "no step"))
            (refine' CEnd.mk (tl' := []) ?c1 ?c2 ?c3 ?c4 ?c5 ?c6 ktn_ord0 ?_; (case c1 => k_asm); (case c2 => assumption); (case c3 => k_asm); (case c5 => assumption); (case c6 => assumption); (case c4 => k_extra "X my sub"))
            rfl
          · intro D7 rs tl7 h7 tk7 hp ho7 hD7 h8 F8 N8
            subst hp
            k_steps
            refine' CSrc.list (nx₀ := NX2) (vs := ys) (fun i ps l => ps.length ≤ i * 64 ∧ All2 (PairIn l) ps (mets (d.maskeds.take i))) mL rfl (by assumption) (News.sub (by assumption) (by k_extra "X my sub")) (by decide) rfl (by intro g h; cases h; rfl) ⟨Nat.zero_le _, .nil⟩ ?_ ?_
            · intro i v ps tl9 h9 tk9 I oI oC C D9 mC9 hv hp ho9 b3 off tr F9 hC9 N9
              refine hideG fun hG9 kG9 => ?_
              obtain ⟨di, hq, hR⟩ := kL.get hv
              refine kG9 ?_
              clear kG9 hG9
              refine hideG fun hG9 kG9 => ?_
              obtain ⟨la, ln, lx, ly, e1, hlm, ⟨pa, pn, pps, e2, hpm, hpi⟩, ⟨qa, qn, qs, e3, hqm, hqi⟩⟩ := hR
              subst e1 e2 e3
              refine kG9 ?_
              clear kG9 hG9
              have hpl : pps.length = di.lot4.length := hpi.length
              have hql : qs.length = di.lot7.length := hqi.length
              have hb2 : di.lot7.length ≤ 256 := WD.lots_len di 1
              intro E9
              refine assign_comp rfl rfl tr off F9 hC9 N9 ?_
              intro h10 oC10 mC10 F10 hC10 hx10 hr10 N10
              refine wpAny_tests_nil ?_
              rw [if_pos rfl]
              refine emit_nextM rfl (by intro g h; cases h; rfl) ?_ (by intro _; rfl)
              (repeat' ((fail_if_success (with_reducible show CEnd _ _ _ _ _ _ _ _ _ _)); (fail_if_success (with_reducible show CEndY _ _ _ _ _ _ _ _ _ _ _)); first | (k_unfold; (try dsimp only)) | (k_end; kc_close) | walk1 | (dsimp only; walk1) | (leave1; walk_say "STEP leave1"; (try dsimp only)) | fail "no step"))
              refine' NSrcM.mkK1 (fun mC => mC (Str.ofString "lot") = some (.ref la)) (fun j zs l => zs.length ≤ i * 64 + j * 8 ∧ All2 (PairIn l) zs (mets (d.maskeds.take i) ++ pairsOf (di.lot4.take j) (cut di.lot7))) ?n1 ?n2 rfl ⟨_, _, rfl⟩ off ho9 ?n3 ?n4 hC10 tr hx10 ?n5 ?n6 ?n7
              case n1 => k_asm
              case n2 => k_asm
              case n3 => k_extra "X my sub"
              case n4 => exact List.mem_append_left _ hpm
              case n5 =>
                refine ⟨by omega, ?_⟩
                have e : mets (d.maskeds.take i) ++ pairsOf (di.lot4.take 0) (cut di.lot7) = mets (d.maskeds.take i) := by simp [pairsOf]
                rw [e]
                exact hp.2
              case n7 =>
                rintro zs tl2 ⟨q1, q2⟩
                have hb4' := lot4_len (List.mem_of_getElem? hq)
                rw [hpl] at q1 q2
                rw [List.take_length] at q2
                refine ⟨by omega, ?_⟩
                have e : mets (d.maskeds.take (i + 1)) = mets (d.maskeds.take i) ++ pairsOf di.lot4 (cut di.lot7) := by
                  rw [List.take_add_one, hq]
                  simp [mets, List.flatMap_append, metOf]
                rw [e]
                simpa only [List.append_assoc] using q2
              case n6 =>
                intro j v zs tl11 h11 tk11 I11 oI11 oC11 mC11 hv11 hg11 hj11 ha11 hcd11 hlt11 off1 off2 tr11 F11 hC11 N11
                refine hideG fun hG9 kG9 => ?_
                obtain ⟨n, tn, e11, hn⟩ := IntsAre_get hpi hv11
                subst e11
                refine kG9 ?_
                clear kG9 hG9
                intro E11
                refine assign_comp rfl rfl tr11 off1 F11 hC11 N11 ?_
                intro h12 oC12 mC12 F12 hC12 hx12 hr12 N12
                have hl12 : mC12 (Str.ofString "lot") = some (.ref la) := (hr12 _ (by decide)).trans hg11
                refine wpAny_tests_nil ?_
                rw [if_pos rfl]
                refine emit_nextM rfl (by intro g h; cases h) ?_ (by intro _; rfl)
                (repeat' ((fail_if_success (with_reducible show CEnd _ _ _ _ _ _ _ _ _ _)); (fail_if_success (with_reducible show CEndY _ _ _ _ _ _ _ _ _ _ _)); first | (k_unfold; (try dsimp only)) | (k_end; kc_close) | walk1 | (dsimp only; walk1) | (leave1; walk_say "STEP leave1"; (try dsimp only)) | fail "no step"))
                · have hI : IntsAre qs (cut di.lot7) := by
                    rw [cut_small hql (by assumption)]
                    exact hqi
                  refine' NSrcM.mkK2 (led9 := (I11, oI11) :: (C, oC12) :: (D9, lst zs) :: (I, oI) :: (NX2 ++ tl9)) (tl' := []) (fun mC => mC (Str.ofString "lot") = some (.ref la) ∧ mC (Str.ofString "one") = some (.int n tn)) (TJ ((I, oI) :: ((NX2 ++ tl9) ++ (tl11 ++ []))) (fun k zs t => zs.length ≤ i * 64 + j * 8 + k ∧ All2 (PairIn (((NX2 ++ tl9) ++ (tl11 ++ [])) ++ t)) zs ((mets (d.maskeds.take i) ++ pairsOf (di.lot4.take j) (cut di.lot7)) ++ ((cut di.lot7).take k).map fun b => (n, b)))) ?xn1 ?xn2 rfl ⟨_, _, rfl⟩ off1 off2 ha11 hcd11 ?xn3 sub_refl ?xn4 ?xn5 hC12 tr11 ⟨hl12, hx12⟩ (fun _ g => g.1) ?xn6 ?xn7 ?xn8
                  case xn1 => k_asm
                  case xn2 => k_asm
                  case xn3 => exact fun _ _ _ h => nomatch h
                  case xn4 => k_extra "X my sub"
                  case xn5 => k_mem
                  case xn6 =>
                    refine TJ.mk0 ⟨hj11.1, ?_⟩
                    rw [List.take_zero, List.map_nil, List.append_nil (mets (d.maskeds.take i) ++ pairsOf (di.lot4.take j) (cut di.lot7))]
                    exact hj11.2.imp fun _ _ h => h.mono (by k_extra "X my sub")
                  case xn8 =>
                    intro zs tl13 q
                    obtain ⟨q1, q2⟩ := q tl13 rfl
                    have hc9 := cut_len di.lot7
                    rw [hI.length] at q1 q2
                    rw [List.take_length] at q2
                    refine ⟨by omega, ?_⟩
                    rw [pairs_take (show di.lot4[j]? = some n from hn), ← List.append_assoc]
                    simpa only [List.append_assoc] using q2
                  case xn7 =>
                    intro k v zs tl13 h13 tk13 I13 oI13 oC13 mC13 hv13 hg13 hj13 ha13 hcd13 hlt13 off3 off4 tr13 F13 hC13 N13
                    refine hideG fun hG9 kG9 => ?_
                    obtain ⟨b, tb, e13, hb⟩ := IntsAre_get hI hv13
                    subst e13
                    refine kG9 ?_
                    clear kG9 hG9
                    obtain ⟨q1, q2⟩ := hj13 tl13 rfl
                    intro E13
                    refine assign_comp rfl rfl tr13 off3 F13 hC13 N13 ?_
                    intro h14 oC14 mC14 F14 hC14 hx14 hr14 N14
                    have hy14 : mC14 (Str.ofString "one") = some (.int n tn) := (hr14 _ (by decide)).trans hg13.2
                    refine wpAny_tests_nil ?_
                    rw [if_pos rfl]
                    refine emit_lastM rfl tr13 ?_
                    (repeat' ((fail_if_success (with_reducible show CEnd _ _ _ _ _ _ _ _ _ _)); (fail_if_success (with_reducible show CEndY _ _ _ _ _ _ _ _ _ _ _)); first | (k_unfold; (try dsimp only)) | (k_end; kc_close) | walk1 | (dsimp only; walk1) | (leave1; walk_say "STEP leave1"; (try dsimp only)) | fail "no step"))
                    rename News _ _ _ ((_, _) :: (I13, _) :: _) => N15
                    obtain ⟨D15, eD⟩ := name_led N15
                    subst eD
                    refine' CEndYM.mkN (tl' := [(D15, tupO [.int n tn, .int b tb] 0)]) ?xc1 ?xc2 ?xc3 ?xc4 off3 off4 ha13 hcd13 ?xc5 ?xc6 ⟨(hr14 _ (by decide)).trans hg13.1, hy14⟩ ?xc8
                    case xc1 => k_asm
                    case xc2 => assumption
                    case xc3 => exact N15
                    case xc4 => k_extra "X my sub"
                    case xc5 => k_extra "X my ord"
                    case xc6 =>
                      have e1 := (List.getElem?_eq_some_iff.mp hq).1
                      have e2 := (List.getElem?_eq_some_iff.mp hn).1
                      have e3 := (List.getElem?_eq_some_iff.mp hb).1
                      have e4 := cut_len di.lot7
                      have e5 : di.lots.1.length ≤ 8 := lot4_len (List.mem_of_getElem? hq)
                      rw [sizeLine_eq]; omega
                    case xc8 =>
                      refine TJ.mk ⟨by simp; omega, ?_⟩
                      rw [List.take_add_one, hb, List.map_append, ← List.append_assoc (mets (d.maskeds.take i) ++ pairsOf (di.lot4.take j) (cut di.lot7))]
                      refine All2.append ?xza (All2.cons ?xzb All2.nil)
                      case xza => exact q2.imp fun _ _ h => h.mono (by k_extra "X my sub")
                      case xzb => exact PairIn.mk (by k_mem)
                · rename IntsAre _ (List.take 1 _) => hI0
                  have hI := hI0
                  rw [show List.take 1 di.lots.2 = cut di.lot7 from (cut_big hql (by assumption)).symm] at hI
                  rename News _ _ _ ((_, listOf (List.toArray _) 0) :: (I11, _) :: _) => N16
                  refine hideG fun hG9 kG9 => ?_
                  obtain ⟨D16, ws16, e1, e2⟩ := name_l0 N16
                  subst e1 e2
                  refine kG9 ?_
                  clear kG9 hG9
                  refine' NSrcM.mkK2 (led9 := (I11, oI11) :: (C, oC12) :: (D9, lst zs) :: (I, oI) :: (NX2 ++ tl9)) (tl' := [(D16, listOf ws16.toArray 0)]) (fun mC => mC (Str.ofString "lot") = some (.ref la) ∧ mC (Str.ofString "one") = some (.int n tn)) (TJ ((I, oI) :: ((NX2 ++ tl9) ++ (tl11 ++ [(D16, listOf ws16.toArray 0)]))) (fun k zs t => zs.length ≤ i * 64 + j * 8 + k ∧ All2 (PairIn (((NX2 ++ tl9) ++ (tl11 ++ [(D16, listOf ws16.toArray 0)])) ++ t)) zs ((mets (d.maskeds.take i) ++ pairsOf (di.lot4.take j) (cut di.lot7)) ++ ((cut di.lot7).take k).map fun b => (n, b)))) ?yn1 ?yn2 rfl ⟨_, _, rfl⟩ off1 off2 ha11 hcd11 ?yn3 sub_refl ?yn4 ?yn5 hC12 tr11 ⟨hl12, hx12⟩ (fun _ g => g.1) ?yn6 ?yn7 ?yn8
                  case yn1 => k_asm
                  case yn2 => k_asm
                  case yn3 => k_extra "X my ord"
                  case yn4 => k_extra "X my sub"
                  case yn5 => k_mem
                  case yn6 =>
                    refine TJ.mk0 ⟨hj11.1, ?_⟩
                    rw [List.take_zero, List.map_nil, List.append_nil (mets (d.maskeds.take i) ++ pairsOf (di.lot4.take j) (cut di.lot7))]
                    exact hj11.2.imp fun _ _ h => h.mono (by k_extra "X my sub")
                  case yn8 =>
                    intro zs tl13 q
                    obtain ⟨q1, q2⟩ := q tl13 rfl
                    have hc9 := cut_len di.lot7
                    rw [hI.length] at q1 q2
                    rw [List.take_length] at q2
                    refine ⟨by omega, ?_⟩
                    rw [pairs_take (show di.lot4[j]? = some n from hn), ← List.append_assoc]
                    simpa only [List.append_assoc] using q2
                  case yn7 =>
                    intro k v zs tl13 h13 tk13 I13 oI13 oC13 mC13 hv13 hg13 hj13 ha13 hcd13 hlt13 off3 off4 tr13 F13 hC13 N13
                    refine hideG fun hG9 kG9 => ?_
                    obtain ⟨b, tb, e13, hb⟩ := IntsAre_get hI hv13
                    subst e13
                    refine kG9 ?_
                    clear kG9 hG9
                    obtain ⟨q1, q2⟩ := hj13 tl13 rfl
                    intro E13
                    refine assign_comp rfl rfl tr13 off3 F13 hC13 N13 ?_
                    intro h14 oC14 mC14 F14 hC14 hx14 hr14 N14
                    have hy14 : mC14 (Str.ofString "one") = some (.int n tn) := (hr14 _ (by decide)).trans hg13.2
                    refine wpAny_tests_nil ?_
                    rw [if_pos rfl]
                    refine emit_lastM rfl tr13 ?_
                    (repeat' ((fail_if_success (with_reducible show CEnd _ _ _ _ _ _ _ _ _ _)); (fail_if_success (with_reducible show CEndY _ _ _ _ _ _ _ _ _ _ _)); first | (k_unfold; (try dsimp only)) | (k_end; kc_close) | walk1 | (dsimp only; walk1) | (leave1; walk_say "STEP leave1"; (try dsimp only)) | fail "no step"))
                    rename News _ _ _ ((_, _) :: (I13, _) :: _) => N15
                    obtain ⟨D15, eD⟩ := name_led N15
                    subst eD
                    refine' CEndYM.mkN (tl' := [(D15, tupO [.int n tn, .int b tb] 0)]) ?yc1 ?yc2 ?yc3 ?yc4 off3 off4 ha13 hcd13 ?yc5 ?yc6 ⟨(hr14 _ (by decide)).trans hg13.1, hy14⟩ ?yc8
                    case yc1 => k_asm
                    case yc2 => assumption
                    case yc3 => exact N15
                    case yc4 => k_extra "X my sub"
                    case yc5 => k_extra "X my ord"
                    case yc6 =>
                      have e1 := (List.getElem?_eq_some_iff.mp hq).1
                      have e2 := (List.getElem?_eq_some_iff.mp hn).1
                      have e3 := (List.getElem?_eq_some_iff.mp hb).1
                      have e4 := cut_len di.lot7
                      have e5 : di.lots.1.length ≤ 8 := lot4_len (List.mem_of_getElem? hq)
                      rw [sizeLine_eq]; omega
                    case yc8 =>
                      refine TJ.mk ⟨by simp; omega, ?_⟩
                      rw [List.take_add_one, hb, List.map_append, ← List.append_assoc (mets (d.maskeds.take i) ++ pairsOf (di.lot4.take j) (cut di.lot7))]
                      refine All2.append ?yza (All2.cons ?yzb All2.nil)
                      case yza => exact q2.imp fun _ _ h => h.mono (by k_extra "X my sub")
                      case yzb => exact PairIn.mk (by k_mem)
            · intro D9 ps tl9 h9 tk9 hp ho9 hD9 h10 F10 N10
              obtain ⟨hp1, hp2⟩ := hp
              rw [hyl, List.take_length] at hp2
              have hmn := mets_nodup ok
              have hpl := hp2.length
              have hmz := mets_take_len (d := d) d.maskeds.length
              rw [List.take_length] at hmz
              obtain ⟨mt, emt⟩ : ∃ mt, mt = mets d.maskeds := ⟨_, rfl⟩
              rw [← emt] at hp2 hmn hpl hmz
              k_steps
              refine CSrc.listT (nx₀ := (D9, lst ps) :: (NX2 ++ tl9)) (vs := ps) (fun i zs t => zs.length ≤ i ∧ All2 (DPIn (((D9, lst ps) :: (NX2 ++ tl9)) ++ t)) zs (mt.take i)) (List.Mem.head _) rfl (by assumption) (by assumption) (by decide) rfl (by intro g h; cases h) ⟨Nat.le_refl _, .nil⟩ ?_ ?_
              · intro i v zs tl11 h11 tk11 I oI oC C D11 mC11 hv hp11 ho11 b311 off11 tr11 F11 hC11 N11
                refine hideG fun hG9 kG9 => ?_
                obtain ⟨p, hq, hP⟩ := hp2.get hv
                refine kG9 ?_
                clear kG9 hG9
                refine hideG fun hG9 kG9 => ?_
                obtain ⟨pa, pn, pt, pu, e11, hpm⟩ := hP
                subst e11
                refine kG9 ?_
                clear kG9 hG9
                refine CTurn.map rfl rfl tr11 off11 F11 hC11 N11 ?_
                intro h12 oC12 mC12 tk12 E12 F12 hC12 hx12 N12
                (repeat' ((fail_if_success (with_reducible show CEnd _ _ _ _ _ _ _ _ _ _)); (fail_if_success (with_reducible show CEndY _ _ _ _ _ _ _ _ _ _ _)); first | (k_unfold; (try dsimp only)) | (k_end; kc_close) | walk1 | (dsimp only; walk1) | (leave1; walk_say "STEP leave1"; (try dsimp only)) | fail "no step"))
                rename News _ _ _ (_ :: (I, _) :: _) => N13
                obtain ⟨D13, eD⟩ := name_led N13
                subst eD
                (refine' CEndY.mk (tl' := [(D13, tupO [Value.ref pa, Value.bool true] 0)]) ?c1 ?c2 ?c3 ?c4 ?c5 ?c6 ?c8 ?c7 ?_; (case c1 => k_asm); (case c2 => assumption); (case c3 => k_asm); (case c5 => assumption); (case c6 => assumption); (case c4 => k_extra "X my sub"); (case c8 => k_extra "X my ord"))
                case c7 => rw [sizeLine_eq]; have := (List.getElem?_eq_some_iff.mp hq).1; omega
                refine TJ.mk ⟨by simp; omega, ?_⟩
                rw [List.take_add_one, hq]
                refine All2.append ?dza (All2.cons ?dzb All2.nil)
                case dza => exact hp11.2.imp fun _ _ h => h.mono (by k_extra "X my sub")
                case dzb => exact ⟨D13, pa, 0, pn, pt, pu, rfl, by k_mem, by k_mem⟩
              · intro D11 zs tl11 h11 tk11 hp11 ho11 hD11 h12 F12 N12
                obtain ⟨hp111, hp112⟩ := hp11
                rw [hpl, List.take_length] at hp112
                simp only [List.cons_append, List.append_assoc] at N12
                have kP : All2 (DPIn ((D11, lst zs) :: (D9, lst ps) :: (NX2 ++ (tl9 ++ tl11)))) zs mt := hp112.imp fun _ _ h => h.mono (by k_extra "X my sub")
                k_steps
                · exfalso
                  rename _ ≠ _ => q9
                  exact q9 (by rw [hpl])
                · k_steps
                  refine' CSrc.list (nx₀ := NX2) (vs := ys) (fun _ rs _ => rs = []) mL rfl (by assumption) (News.sub (by assumption) (by k_extra "X my sub")) (by decide) rfl (by intro g h; cases h) rfl ?_ ?_
                  · intro i v rs tl13 h13 tk13 I oI oC C D13 mC13 hv hp ho13 b3 off tr F13 hC13 N13
                    subst hp
                    refine hideG fun hG9 kG9 => ?_
                    obtain ⟨di, hq, hR⟩ := kL.get hv
                    refine kG9 ?_
                    clear kG9 hG9
                    obtain ⟨_, e13⟩ := hR.isRef
                    subst e13
                    have hb1 := WD.lots_len di
                    have hw9 := lot_within ok (List.mem_of_getElem? hq)
                    refine CTurn.filter rfl rfl tr off F13 hC13 N13 ?_
                    intro h14 oC14 mC14 tk14 E14 F14 hC14 hx14 N14
                    (repeat' ((fail_if_success (with_reducible show CEnd _ _ _ _ _ _ _ _ _ _)); (fail_if_success (with_reducible show CEndY _ _ _ _ _ _ _ _ _ _ _)); first | (k_unfold; (try dsimp only)) | (k_end; kc_close) | walk1 | (dsimp only; walk1) | (leave1; walk_say "STEP leave1"; (try dsimp only)) | fail "no step"))
                    (refine' CEnd.mk (tl' := []) ?c1 ?c2 ?c3 ?c4 ?c5 ?c6 ktn_ord0 ?_; (case c1 => k_asm); (case c2 => assumption); (case c3 => k_asm); (case c5 => assumption); (case c6 => assumption); (case c4 => k_extra "X my sub"))
                    rfl
                  · intro D13 rs tl13 h13 tk13 hp ho13 hD13 h14 F14 N14
                    subst hp
                    k_steps
                    refine wpAny_Try_except ?_
                    k_steps
                    unfold MaskAt
                    refine' SaysB.use (masked_both (.inr rfl) ?mh0 ok ?mh1) ?mkB ?mkF ?mkX ?mkN ?mkT ?mkK ?mkD ?mkU ?mkr ?mke
                    case mkB => k_asm
                    case mkF => k_asm
                    case mkX => k_asm
                    case mkN => k_asm
                    case mkT => k_asm
                    case mkK => first | exact rfl | assumption
                    case mkD => ktr_room
                    case mkU => ktr_units
                    case mh0 => exact RuleIn.mono (by assumption) (by k_extra "X my sub")
                    case mh1 => omega
                    case mkr =>
                      intro r15 tl15 h15 tk15 F15 N15 o15 p15
                      obtain ⟨_, hMO⟩ := p15
                      by_cases he : d.entries = []
                      · have hd0 : d = WD0 := by rcases d with ⟨_ | a, _ | b⟩ <;> simp [WD.entries] at he <;> rfl
                        have hk0 : kvs = [] := by subst hd0; cases hdk; rfl
                        have hf1 : fs.length = 1 := by rw [hfl, hd0]; rfl
                        subst hk0
                        dsimp only
                        k_steps
                        · dsimp only
                          refine' keq_pairs (N := ?qN) (pa := ?qa) (pb := ?qb) (da := hdo) (db := ?qd) (la := hds) (lb := ?ql) rfl ?qu .nil ?qh
                          case qN => k_asm
                          case qa => k_mem
                          case qb => k_mem
                          case qd => assumption
                          case ql => assumption
                          case qu => ktr_units
                          case qh =>
                            try walk_at "Stop"
                            refine hret _ _ ?_
                            exact fun b o e => Fr.keep (by k_asm) b o (B'.stays b o e)
                        · exfalso
                          rename ¬ (_ = _) => q9
                          exact q9 (by omega)
                      · exact absurd hMO (by rw [hfl]; exact not_last ok he)
                    case mke =>
                      intro e15 h15 tk15 hbad fl15
                      refine hideG fun hG9 kG9 => ?_
                      obtain ⟨⟨t15, Fl⟩, _⟩ := fl15
                      refine kG9 ?_
                      clear kG9 hG9
                      dsimp only
                      refine caught_err rfl Fl XT.get.1 XT.get.2 ?_ rfl rfl ?mhE
                      case mhE => passes_own
                      intro h16 st16
                      k_steps
                      exact hret _ _ st16

theorem off_F28 : True := by
  k_with "off F28" => skip
  trivial
end
section
theorem anew_F29 : True := by
  w_top off
  trivial
theorem kw26 : True := by
  k_with "X call builtin:len" => ((fail_if_success k_extra "off F29"); ((k_here; (with_reducible show wpAny _ _ (call (Value.builtin "len") [Value.ref _]) _ _ _); k_dflt (refine' len_listL ?lz106 ?zz106 ?_; (case lz106 => exact is_listF (by k_asm) (by assumption)); (case zz106 => omega); k_whole))))
  k_with "X subscriptTail" => ((fail_if_success k_extra "off F29"); ((k_here; (with_reducible show wpAny _ _ (subscriptTail _ _ (Value.ref _) (Value.int _ _)) _ _ _); k_dflt (refine' item_led ?itLz107 ?itKz107 ?itXz107 ?itZz107 ?_; (case itLz107 => exact is_listF (by k_asm) (by assumption)); (case itKz107 => exact (rfl : (0 : Int) = ((0 : Nat) : Int))); (case itXz107 => exact rfl); (case itZz107 => omega)))))
  trivial
theorem pool_nonneg (c : Int) (b : Prop) [Decidable b] : 0 ≤ (if -1 - c > c then -1 - c else c) * (if b then 1 else 0) := by
  have h : 0 ≤ (if -1 - c > c then -1 - c else c) := by split <;> omega
  by_cases hb : b
  · rw [if_pos hb, Int.mul_one]; exact h
  · rw [if_neg hb, Int.mul_zero]; exact Int.le_refl _
theorem pool_says {w : World} {news : Led} {sa : Addr} {vs : List Value} {ns : List Int} {t : Tok} (hI : IntsAre vs ns) (hz : vs.length ≤ 63) :
  ∀ (mean : ExcName → Option Value) (mg mb : Str → Option Value) (dp un : Nat) (gd : Option (List Code)) (cn : Str) (cs : Scope) (a : Addr) (ccd : Value) (cl : List (Str × Addr)) (outer : List Env) (A₀ : Around) (base h₀ : Heap) (L : Addr) (m : Str → Option Value) (s : Shared)
    (Q E : Value → Shared → Prop), base.IsList sa vs.toArray →
    Below A₀ base outer h₀ → Fr h₀ L s.heap m → (Mine.hd.heap_1 w.params).In h₀ → News h₀ L s.heap news → Top vw lse mean mg mb h₀ → cs.kind = .function → dp + 3 < recursionLimit → un + 32 < cLine →
    (∀ r tl h' tk', Fr h₀ L h' m → News h₀ L h' (news ++ tl) → (∀ q ∈ news, ∀ p ∈ tl, q.1 < p.1) → (∃ a o, r = .ref a ∧ tl = [(a, o)] ∧ SrcOk o) → Q r { s with heap := h', toks := tk' }) →
    wpAny (model prg w) (ktrTop dp un gd cn cs L a ccd cl outer) (call (.ref 196) [.ref sa, .int 0 t]) Q E s := by
  intro mean mg mb dp un gd cn cs a ccd cl outer A₀ base h₀ L m s Q E hL B F X N T hk hd hu hret
  have hvl := hI.length
  refine wpAny_call ?_
  k_dflt ktr_enter
  rename Below _ _ _ _ => B9
  have hLg := hL.at fun o e => B9.stays _ _ e
  rcases hI with _ | ⟨n, tn, hI⟩
  · have hz0 : ([] : List Value).length = 0 := rfl
    k_steps
    rename News h₀ L _ ((_, _) :: news) => N9
    obtain ⟨l9, eD⟩ := name_led N9
    subst eD
    refine hret _ _ _ _ ?e1 (ktn_tl1 N9) ?e3 ⟨l9, _, rfl, rfl, _, _, _, _, _, rfl, pool_nonneg _ _, Int.fmod_nonneg_of_pos _ (by decide), Int.fmod_lt_of_pos _ (by decide)⟩
    case e1 => k_asm
    case e3 => k_extra "X my ord"
  · rename_i vs ns
    have hz0 : (Value.int n tn :: vs).length = vs.length + 1 := rfl
    k_steps
    rename News h₀ L _ ((_, _) :: news) => N9
    obtain ⟨l9, eD⟩ := name_led N9
    subst eD
    refine hret _ _ _ _ ?f1 (ktn_tl1 N9) ?f3 ⟨l9, _, rfl, rfl, _, _, _, _, _, rfl, pool_nonneg _ _, Int.fmod_nonneg_of_pos _ (by decide), Int.fmod_lt_of_pos _ (by decide)⟩
    case f1 => k_asm
    case f3 => k_extra "X my ord"
theorem pool_use {w : World} {news : Led} {sa : Addr} {vs : List Value} {ns : List Int} {t : Tok} {g0 hh0 : Heap} {L0 : Addr} (_ : News g0 L0 hh0 news) (hI : IntsAre vs ns) (hz : vs.length ≤ 63)
    {mean : ExcName → Option Value} {mg mb : Str → Option Value} {dp un : Nat} {gd : Option (List Code)} {cn : Str} {cs : Scope} {a : Addr} {ccd : Value} {cl : List (Str × Addr)} {outer : List Env} {A₀ : Around} {base h₀ : Heap} {L : Addr} {m : Str → Option Value} {s : Shared} {Q E : Value → Shared → Prop} (hL : base.IsList sa vs.toArray)
    (B : Below A₀ base outer h₀) (F : Fr h₀ L s.heap m) (X : (Mine.hd.heap_1 w.params).In h₀) (N : News h₀ L s.heap news) (T : Top vw lse mean mg mb h₀) (hk : cs.kind = .function) (hd : dp + 3 < recursionLimit) (hu : un + 32 < cLine)
    (ret : ∀ r tl h' tk', Fr h₀ L h' m → News h₀ L h' (news ++ tl) → (∀ q ∈ news, ∀ p ∈ tl, q.1 < p.1) → (∃ a o, r = .ref a ∧ tl = [(a, o)] ∧ SrcOk o) → Q r { s with heap := h', toks := tk' }) :
    wpAny (model prg w) (ktrTop dp un gd cn cs L a ccd cl outer) (call (.ref 196) [.ref sa, .int 0 t]) Q E s := pool_says hI hz _ _ _ _ _ _ _ _ _ _ _ _ _ _ _ _ _ _ _ _ hL B F X N T hk hd hu ret

theorem off_F29 : True := by
  k_with "off F29" => skip
  trivial
end
section
theorem anew_F30 : True := by
  w_top off
  trivial
theorem rm07 {w : World} {news : Led} {t u v : Tok} : Says w 128 1 8 news [.int 0 t, .int 7 u, .int 3 v] (fun l r => ListIn PairIn l r [(0, 0)]) :=
  (range_masks_says (bits := 3) (by decide) (by decide) (by decide) (by decide)).weaken fun _ _ h => (show rm 3 0 7 = [(0, 0)] by decide +kernel) ▸ h
theorem rm16 {w : World} {news : Led} {t u v : Tok} : Says w 128 1 8 news [.int 1 t, .int 6 u, .int 3 v] (fun l r => ListIn PairIn l r [(1, 7), (2, 6), (4, 6), (6, 7)]) :=
  (range_masks_says (bits := 3) (by decide) (by decide) (by decide) (by decide)).weaken fun _ _ h => (show rm 3 1 6 = [(1, 7), (2, 6), (4, 6), (6, 7)] by decide +kernel) ▸ h
theorem kw27 : True := by
  k_with "X call ref" => ((fail_if_success k_extra "off F30"); ((k_here; (with_reducible show wpAny _ _ (call (Value.ref 128) _) _ _ _); k_dflt (k_dflt (refine' Says.use rm07 ?kBz108 ?kFz108 ?kXz108 ?kNz108 ?kTz108 ?kKz108 ?kDz108 ?kUz108 ?_; (case kBz108 => k_asm); (case kFz108 => k_asm); (case kXz108 => k_asm); (case kNz108 => k_asm); (case kTz108 => k_asm); (case kKz108 => first | exact rfl | assumption); (case kDz108 => ktr_room); (case kUz108 => ktr_units)); skip; intro r9z108 tl9z108 h9z108 tk9z108 F9z108 N9z108 o9z108 p9z108; (try replace p9z108 := TPost.get p9z108); (try dsimp only [List.nil_append, List.cons_append] at N9z108); (try simp only [List.nil_append, List.cons_append, List.append_nil, List.append_assoc] at N9z108); (try dsimp only [List.nil_append, List.cons_append] at p9z108); (try simp only [List.nil_append, List.cons_append, List.append_nil, List.append_assoc] at p9z108); (have p8z108 := p9z108; obtain ⟨_, _, _, e9z108, _, _⟩ := p8z108; subst e9z108); (try dsimp only); (try k_fold)))))
  k_with "X call ref" => ((fail_if_success k_extra "off F30"); ((k_here; (with_reducible show wpAny _ _ (call (Value.ref 128) _) _ _ _); k_dflt (k_dflt (refine' Says.use rm16 ?kBz109 ?kFz109 ?kXz109 ?kNz109 ?kTz109 ?kKz109 ?kDz109 ?kUz109 ?_; (case kBz109 => k_asm); (case kFz109 => k_asm); (case kXz109 => k_asm); (case kNz109 => k_asm); (case kTz109 => k_asm); (case kKz109 => first | exact rfl | assumption); (case kDz109 => ktr_room); (case kUz109 => ktr_units)); skip; intro r9z109 tl9z109 h9z109 tk9z109 F9z109 N9z109 o9z109 p9z109; (try replace p9z109 := TPost.get p9z109); (try dsimp only [List.nil_append, List.cons_append] at N9z109); (try simp only [List.nil_append, List.cons_append, List.append_nil, List.append_assoc] at N9z109); (try dsimp only [List.nil_append, List.cons_append] at p9z109); (try simp only [List.nil_append, List.cons_append, List.append_nil, List.append_assoc] at p9z109); (have p8z109 := p9z109; obtain ⟨_, _, _, e9z109, _, _⟩ := p8z109; subst e9z109); (try dsimp only); (try k_fold)))))
  trivial
theorem kw28 : True := by
  k_with "X call ref" => ((fail_if_success k_extra "off F30"); ((k_here; (with_reducible show wpAny _ _ (call (Value.ref 203) _) _ _ _); k_dflt (k_dflt (refine' SaysM.use (take_says ?hoz110 ?h0z110 ?h1z110) ?kBz110 ?kFz110 ?kXz110 ?kNz110 ?kSz110 ?kTz110 ?kKz110 ?kDz110 ?kUz110 ?kEz110 ?_; (case kBz110 => k_asm); (case kFz110 => k_asm); (case kXz110 => k_asm); (case kNz110 => k_asm); (case kSz110 => k_extra "X my split"); (case kTz110 => k_asm); (case kKz110 => first | exact rfl | assumption); (case kDz110 => ktr_room); (case kUz110 => ktr_units); (case kEz110 => k_extra "X my ne")); ((case hoz110 => assumption); (case h0z110 => first | omega | (simp only [Int.toNat_natCast]; omega)); (case h1z110 => first | omega | (simp only [Int.toNat_natCast]; omega))); intro r9z110 o9z110 tl9z110 h9z110 tk9z110 F9z110 N9z110 l9z110 p9z110; (try replace p9z110 := TPost.get p9z110); (try dsimp only [List.nil_append, List.cons_append] at N9z110); (try simp only [List.nil_append, List.cons_append, List.append_nil, List.append_assoc] at N9z110); (try dsimp only [List.nil_append, List.cons_append] at p9z110); (try simp only [List.nil_append, List.cons_append, List.append_nil, List.append_assoc] at p9z110); ((try simp only [Int.toNat_natCast] at p9z110); revert p9z110; with_reducible apply take_imp; intro hSo9z110 d9z110 t9z110 hl9z110 hu9z110; clear r9z110); (try dsimp only); (try k_fold)))))
  k_with "X call ref" => ((fail_if_success k_extra "off F30"); ((k_here; (with_reducible show wpAny _ _ (call (Value.ref 203) [_, Value.int (_ ^ _) _]) _ _ _); k_dflt (refine take_stop ?_))))
  trivial
theorem kw29 : True := by
  k_with "X call ref" => ((fail_if_success k_extra "off F30"); ((k_here; (with_reducible show wpAny _ _ (call (Value.ref 220) _) _ _ _); k_dflt (k_dflt (refine' Says.use (range_right_says ?h0z112 ?h1z112 ?h2z112 ?h3z112 ?h4z112) ?kBz112 ?kFz112 ?kXz112 ?kNz112 ?kTz112 ?kKz112 ?kDz112 ?kUz112 ?_; (case kBz112 => k_asm); (case kFz112 => k_asm); (case kXz112 => k_asm); (case kNz112 => k_asm); (case kTz112 => k_asm); (case kKz112 => first | exact rfl | assumption); (case kDz112 => ktr_room); (case kUz112 => ktr_units)); ((case h0z112 => omega); (case h1z112 => omega); (case h2z112 => omega); (case h3z112 => omega); (case h4z112 => omega)); intro r9z112 tl9z112 h9z112 tk9z112 F9z112 N9z112 o9z112 p9z112; (try replace p9z112 := TPost.get p9z112); (try dsimp only [List.nil_append, List.cons_append] at N9z112); (try simp only [List.nil_append, List.cons_append, List.append_nil, List.append_assoc] at N9z112); (try dsimp only [List.nil_append, List.cons_append] at p9z112); (try simp only [List.nil_append, List.cons_append, List.append_nil, List.append_assoc] at p9z112); (subst p9z112); (try dsimp only); (try k_fold)))))
  trivial
theorem kw30 : True := by
  k_with "X call ref" => ((fail_if_success k_extra "off F30"); ((k_here; (with_reducible show wpAny _ _ (call (Value.ref 227) _) _ _ _); k_dflt (k_dflt (refine' SaysMT.use (wish_says3 ?hoz113) ?kBz113 ?kFz113 ?kXz113 ?kNz113 ?kSz113 ?kTz113 ?kKz113 ?kDz113 ?kUz113 ?kEz113 ?_; (case kBz113 => k_asm); (case kFz113 => k_asm); (case kXz113 => k_asm); (case kNz113 => k_asm); (case kSz113 => k_extra "X my split"); (case kTz113 => k_asm); (case kKz113 => first | exact rfl | assumption); (case kDz113 => ktr_room); (case kUz113 => ktr_units); (case kEz113 => k_extra "X my ne")); (case hoz113 => assumption); intro r9z113 o9z113 tl9z113 h9z113 tk9z113 F9z113 N9z113 l9z113 p9z113; (try replace p9z113 := TPost.get p9z113); (try dsimp only [List.nil_append, List.cons_append] at N9z113); (try simp only [List.nil_append, List.cons_append, List.append_nil, List.append_assoc] at N9z113); (try dsimp only [List.nil_append, List.cons_append] at p9z113); (try simp only [List.nil_append, List.cons_append, List.append_nil, List.append_assoc] at p9z113); (revert p9z113; with_reducible apply wish_imp; intro hSo9z113 dW9z113 hO9z113 c9z113 hW9z113; clear r9z113); (try dsimp only); (try k_fold)))))
  trivial
theorem kw31 : True := by
  k_with "X call ref" => ((fail_if_success k_extra "off F30"); ((k_here; (with_reducible show wpAny _ _ (call (Value.ref 232) _) _ _ _); k_dflt (k_dflt (refine' Says.use (pair_right_says ?h0z114 ?h1z114 ?h2z114 ?h3z114) ?kBz114 ?kFz114 ?kXz114 ?kNz114 ?kTz114 ?kKz114 ?kDz114 ?kUz114 ?_; (case kBz114 => k_asm); (case kFz114 => k_asm); (case kXz114 => k_asm); (case kNz114 => k_asm); (case kTz114 => k_asm); (case kKz114 => first | exact rfl | assumption); (case kDz114 => ktr_room); (case kUz114 => ktr_units)); ((case h0z114 => exact WishIn.mono (by assumption) (by k_extra "X my sub")); (case h1z114 => exact WishIn.mono (by assumption) (by k_extra "X my sub")); (case h2z114 => assumption); (case h3z114 => assumption)); intro r9z114 tl9z114 h9z114 tk9z114 F9z114 N9z114 o9z114 p9z114; (try replace p9z114 := TPost.get p9z114); (try dsimp only [List.nil_append, List.cons_append] at N9z114); (try simp only [List.nil_append, List.cons_append, List.append_nil, List.append_assoc] at N9z114); (try dsimp only [List.nil_append, List.cons_append] at p9z114); (try simp only [List.nil_append, List.cons_append, List.append_nil, List.append_assoc] at p9z114); (subst p9z114); (try dsimp only); (try k_fold)))))
  k_with "X call ref" => ((fail_if_success k_extra "off F30"); ((k_here; (with_reducible show wpAny _ _ (call (Value.ref 196) _) _ _ _); k_dflt (refine pool_stop ?_))))
  k_with "X compareOp NotEq ref ref" => ((fail_if_success k_extra "off F30"); ((k_here; (with_reducible show wpAny _ _ (compareOp CmpOp.NotEq (Value.ref _) (Value.ref _)) _ _ _); k_dflt (refine' ne_pairs_false ?epNz116 ?epAz116 ?epBz116 ?epUz116 ?_; (case epNz116 => k_asm); (case epAz116 => exact ListIn.monoP (by with_reducible assumption) (by k_extra "X my sub")); (case epBz116 => first | exact ListIn.mk (by k_extra "X my mem0") (.cons (PairIn.mk (by k_extra "X my mem0")) .nil) | exact ListIn.mk (by k_extra "X my mem0") (.cons (PairIn.mk (by k_extra "X my mem0")) (.cons (PairIn.mk (by k_extra "X my mem0")) (.cons (PairIn.mk (by k_extra "X my mem0")) (.cons (PairIn.mk (by k_extra "X my mem0")) .nil))))); (case epUz116 => ktr_units)))))
  trivial
theorem kw32 : True := by
  k_with "X call ref" => ((fail_if_success k_extra "off F30"); ((k_here; (with_reducible show wpAny _ _ (call (Value.ref 251) _) _ _ _); k_dflt (k_dflt (refine' SaysMT.use (wishes_says ?hoz117) ?kBz117 ?kFz117 ?kXz117 ?kNz117 ?kSz117 ?kTz117 ?kKz117 ?kDz117 ?kUz117 ?kEz117 ?_; (case kBz117 => k_asm); (case kFz117 => k_asm); (case kXz117 => k_asm); (case kNz117 => k_asm); (case kSz117 => k_extra "X my split"); (case kTz117 => k_asm); (case kKz117 => first | exact rfl | assumption); (case kDz117 => ktr_room); (case kUz117 => ktr_units); (case kEz117 => k_extra "X my ne")); (case hoz117 => assumption); intro r9z117 o9z117 tl9z117 h9z117 tk9z117 F9z117 N9z117 l9z117 p9z117; (try replace p9z117 := TPost.get p9z117); (try dsimp only [List.nil_append, List.cons_append] at N9z117); (try simp only [List.nil_append, List.cons_append, List.append_nil, List.append_assoc] at N9z117); (try dsimp only [List.nil_append, List.cons_append] at p9z117); (try simp only [List.nil_append, List.cons_append, List.append_nil, List.append_assoc] at p9z117); (revert p9z117; with_reducible apply dict_imp; intro hSo9z117 dW9z117 hO9z117 c9z117 hD9z117; clear r9z117); (try dsimp only); (try k_fold)))))
  trivial
theorem kw33 : True := by
  k_with "X call ref" => ((fail_if_success k_extra "off F30"); ((k_here; (with_reducible show wpAny _ _ (call (Value.ref 256) _) _ _ _); k_dflt (k_dflt (refine' Says.use (shadows_right_says ?h0z118 ?h1z118 ?h2z118) ?kBz118 ?kFz118 ?kXz118 ?kNz118 ?kTz118 ?kKz118 ?kDz118 ?kUz118 ?_; (case kBz118 => k_asm); (case kFz118 => k_asm); (case kXz118 => k_asm); (case kNz118 => k_asm); (case kTz118 => k_asm); (case kKz118 => first | exact rfl | assumption); (case kDz118 => ktr_room); (case kUz118 => ktr_units)); ((case h0z118 => assumption); (case h1z118 => assumption); (case h2z118 => omega)); intro r9z118 tl9z118 h9z118 tk9z118 F9z118 N9z118 o9z118 p9z118; (try replace p9z118 := TPost.get p9z118); (try dsimp only [List.nil_append, List.cons_append] at N9z118); (try simp only [List.nil_append, List.cons_append, List.append_nil, List.append_assoc] at N9z118); (try dsimp only [List.nil_append, List.cons_append] at p9z118); (try simp only [List.nil_append, List.cons_append, List.append_nil, List.append_assoc] at p9z118); (subst p9z118); (try dsimp only); (try k_fold)))))
  trivial
theorem kw34 : True := by
  k_with "X call ref" => ((fail_if_success k_extra "off F30"); ((k_here; (with_reducible show wpAny _ _ (call (Value.ref 261) _) _ _ _); k_dflt (refine masked_stop ?_))))
  k_with "X subscriptTail" => ((fail_if_success k_extra "off F30"); ((k_here; (with_reducible show wpAny _ _ (subscriptTail _ _ (Value.ref _) (Value.int _ _)) _ _ _); k_dflt (refine' item_led ?itLz120 ?itKz120 ?itXz120 ?itZz120 ?_; (case itLz120 => exact News.isList (by k_asm) (by k_extra "X my mem")); (case itKz120 => exact (rfl : (0 : Int) = ((0 : Nat) : Int))); (case itXz120 => assumption); (case itZz120 => omega)))))
  k_with "X my clear" => ((fail_if_success k_extra "off F30"); (repeat (rename ∀ q ∈ _, ∀ p ∈ _, (_ : Nat) < _ => o9z121; clear o9z121)))
  k_with "X my open" => ((fail_if_success k_extra "off F30"); ((k_fill; intro w s₀ s₁ mg mb G Y fa o pm cd doc dV kV ho hd hcd hD hmg hg args vals as hpre hlay hrd hwl hlo; (have KX := kIn_of Y); have X := (Ground.X G).1; have V := (Ground.X G).2; refine Ground.open G ?_; intro T B D TE TW; try (refine guard_noD D (by decide +kernel) ?_; clear D); obtain ⟨_, _, M⟩ := bmod_of_top T; have TA := at_of_top T; try (obtain ⟨_, _, he, B0⟩ := based_of_top T rfl hmg ho hd; have he' : cd = _ := he; subst he'; clear he); clear hmg; wrow_args hpre hlay hrd hwl hlo; all_goals ((first | refine callC_kw (enter_call ?_) | refine enter_call ?_ | refine callC_kw (enter_callW ?_) | refine enter_callW ?_ | w_how); w_top on; try refine codeAny_mono ?_ (fun _ _ g => GoodW.toG g); have K0 := below_caller (Top.heap T); w_call any ho hd hcd hD T F; clear hd TA; k_drop; skip))))
  trivial
set_option maxRecDepth 100000 in
set_option maxHeartbeats 8000000 in
theorem law_holds : PySem.Challenge.rw_pc0368_01.Holds := by
  refine Mine.hd.2.2 Mine.hd_left ?_
  unfold hd needs
  dsimp only
  w_strict (k_extra "X my open"; (all_goals try k_fold))
  w_top off
  rename_i w10 w9 w8 w7 ns hs hlay hL1 hr1 hl2 w5 w4 sa vs w1a hL ra wl r0 hI hr hc1 hc2 h₁ tk₁ cW dC N0 X0
  have K1 : Below callerA s₁.heap [] s₁.heap := K0
  clear K0 X0 hD hc2 hr r0 wl ra hl2 hr1 hL1 hlay hs hcd M TW TE B V X ho Y G
  refine wpAny_mono (Q := fun fl s' => ∃ h' tk', fl = .ret (.bool true) ∧ s' = { s₁ with heap := h', toks := tk' } ∧ s₁.heap.StaysIn h') (E := fun _ _ => False) ?_ ?hQ (fun _ _ h => h.elim)
  case hQ =>
    intro fl s' hp98 
    refine hideG fun hG9 kG9 => ?_
    obtain ⟨h', tk', rfl, rfl, st⟩ := hp98
    refine kG9 ?_
    clear kG9 hG9
    refine ⟨.inl ⟨_, .bool true, [], rfl, ?ha, .bool true, ?hb, ?hc⟩, st, rfl, hg⟩
    case ha => intro _; rfl
    case hb =>
      refine Bool.and_eq_true_iff.mpr ⟨by rfl, ?_⟩
      have e : ∀ en : WCtx, en.res = some (WData.bool true) → WTm.holds (Challenge.rw_pc0368_01.row.records) (WTm.eq WTm.res (WTm.lit (WData.bool true))) en = true := fun en h => by
        unfold WTm.holds
        rw [w_eq_bool (w_res h) w_lit]
        rfl
      exact e _ rfl
    case hc => exact fun _ => ⟨List.nodup_nil, fun _ h => nomatch h⟩
  have hIl := hI.length
  have hz : vs.length ≤ 63 := by omega
  obtain ⟨M0, eM⟩ := name_fr F
  have F0 : Fr _ _ _ M0 := eM ▸ F
  have m0 : M0 (Str.ofString "script") = some (.ref sa) := by rw [eM]; rfl
  have dC0 : cW.data = .cell none := dC
  clear eM F dC hg hc1 hIl
  have eK := map_ps [(Str.ofString "script", Value.ref sa)] (m := M0) (by intro p hp; rw [List.mem_singleton.mp hp]; exact m0)
  have F1 := F0
  rw [← eK] at F1
  clear F0 eK m0
  generalize hL0 : s₁.heap.objs.size = L0 at *
  dsimp only
  clear qk ek
  k_steps
  unfold PoolAt
  rename News _ _ _ _ => N7
  have N6 : News _ _ _ [(L0 + 1, cW)] := News.sub N7 (by k_extra "X my sub")
  refine' pool_use N6 hI hz ?pL ?kB ?kF ?kX ?kN ?kT ?kK ?kD ?kU ?_
  case pL => exact hL
  case kB => exact K1
  case kF => k_asm
  case kX => k_asm
  case kN => exact N6
  case kT => k_asm
  case kK => first | exact rfl | assumption
  case kD => ktr_room
  case kU => ktr_units
  intro r9 tl9 h9 tk9 F9 N9 o9 p9
  refine hideG fun hG9 kG9 => ?_
  obtain ⟨sA, sO, e1, e2, hSo⟩ := p9
  subst e1 e2
  refine kG9 ?_
  clear kG9 hG9
  have oC := o9 _ (.head _) _ (.head _)
  replace oC : L0 + 1 < sA := oC
  have n4 : L0 + 1 ≠ sA := Nat.ne_of_lt oC
  have N8 : News _ _ _ ((sA, sO) :: (L0 + 1, cW) :: []) := News.sub N9 (by intro p hp; simp only [List.mem_cons, List.mem_append, List.not_mem_nil, or_false] at hp ⊢; exact hp.symm)
  clear N9 N7 N6 o9
  repeat (rename ListIn _ _ _ _ => j9; clear j9)
  repeat (rename All2 _ _ _ => j9; clear j9)
  repeat (rename (_ : Addr × Obj) ∈ _ => j9; clear j9)
  repeat (rename (_ : Nat) < _ ∧ _ => j9; clear j9)
  k_extra "X my clear"
  rename Fr _ _ h9 _ => F9
  dsimp only
  k_steps
  unfold TakeAt
  rename SrcOk _ => hSo2
  rename (_ : Int) < 5 => hd5
  rename 0 ≤ (_ : Int) => hd0
  rename Fr _ _ _ _ => F7
  rename News _ _ _ ((sA, _) :: (_, _) :: _) => N7
  obtain ⟨d, e1⟩ := name_int hd0
  subst e1
  obtain ⟨b, hb⟩ : ∃ b : Nat, 3 + d = (b : Int) := ⟨(3 + d).toNat, by omega⟩
  rw [hb] at F7 ⊢
  have hb7 : b ≤ 7 := by omega
  have hb3 : 3 ≤ b := by omega
  clear hb hd0 hd5 d
  obtain ⟨hz1, hz2⟩ := pow_bounds hb7
  simp only [Int.toNat_natCast]
  k_extra "X my clear"
  have N6 : News _ _ _ ((sA, _) :: (L0 + 1, _) :: []) := News.sub N7 (by k_extra "X my sub")
  clear N7
  refine' SaysM.use (take_says hSo2 hz1 (by omega)) ?tkB ?tkF ?tkX ?tkN ?tkS ?tkT ?tkK ?tkD ?tkU ?tkE ?_
  case tkB => exact K1
  case tkF => k_asm
  case tkX => k_asm
  case tkN => exact N6
  case tkS => exact split0
  case tkT => k_asm
  case tkK => first | exact rfl | assumption
  case tkD => ktr_room
  case tkU => ktr_units
  case tkE => k_extra "X my ne"
  intro r10 o10 tl10 h10 tk10 F10 N10 l10 p10
  refine hideG fun hG9 kG9 => ?_
  obtain ⟨hSo3, lo, tlo, e10, hlo0, hlo1⟩ := p10
  subst e10
  refine kG9 ?_
  clear kG9 hG9
  simp only [List.cons_append, List.nil_append] at N10
  clear F7 N6 hSo2
  dsimp only
  k_steps
  rename SrcOk _ => hSo4
  rename (_ : Int) < 3 => hd3
  rename 0 ≤ (_ : Int) => hd0
  obtain ⟨d, e1⟩ := name_int hd0
  subst e1
  rename IsRange _ _ _ _ _ _ _ _ => hr
  rename News _ _ _ _ => N11
  have N12 : News _ _ _ ((sA, _) :: (L0 + 1, _) :: []) := News.sub N11 (by k_extra "X my sub")
  refine hideG fun hG9 kG9 => ?_
  obtain ⟨sO4, cO, e1, e2⟩ := name_pair N12
  subst e1 e2
  refine kG9 ?_
  clear kG9 hG9
  k_extra "X my clear"
  clear N11
  refine CSrc.rangeJ (n := (2 + d).toNat) (nx₀ := (sA, sO4) :: (L0 + 1, cO) :: []) (RJ w sA (L0 + 1) cO) hr (small_one (by decide) (by decide) (by omega) (by omega)) (by rw [rangeSize_nat]; omega) rfl (by assumption) N12 (by decide) rfl (by intro g h; cases h) ⟨sO4, [], [], rfl, hSo4, (fun _ h => nomatch h), rfl, (fun _ h => nomatch h), .nil⟩ ?_ ?_
  · intro i tv ys nx h tk I oI oC C D mC hi hp98 b3 off tr F1 hC1 N1
    refine hideG fun hG9 kG9 => ?_
    obtain ⟨o, tl, ds, rfl, hSo, htl, hyl, hok, hA⟩ := hp98
    refine kG9 ?_
    clear kG9 hG9
    have i1 : sA < I := (b3 _ (.head _)).1
    have i2 : sA < C := (b3 _ (.head _)).2.1
    have i3 : sA < D := (b3 _ (.head _)).2.2
    have n1 : I ≠ sA := Nat.ne_of_gt i1
    have n2 : C ≠ sA := Nat.ne_of_gt i2
    have n3 : D ≠ sA := Nat.ne_of_gt i3
    refine CTurn.map rfl rfl tr off F1 hC1 N1 ?_
    intro h2 oC2 mC2 tk2 E2 F2 hC2 hx2 N2
    (repeat' ((fail_if_success (with_reducible show CEnd _ _ _ _ _ _ _ _ _ _)); (fail_if_success (with_reducible show CEndY _ _ _ _ _ _ _ _ _ _ _)); first | (k_unfold; (try dsimp only)) | (k_end; kc_close) | walk1 | (dsimp only; walk1) | (leave1; walk_say "STEP leave1"; (try dsimp only)) | fail "no step"))
    rename SrcOk _ => hSo9
    rename Led => tl9
    rename ∀ q ∈ _, ∀ p ∈ _, (_ : Nat) < _ => l9
    rename DictIn _ _ _ _ => hD9
    rename News _ _ _ _ => N9
    rename WD.ok _ => hO9
    obtain ⟨dN, e9⟩ := name_d hD9
    subst e9
    obtain ⟨oN, e9⟩ := name_o hSo9
    subst e9
    have hl9 : ∀ p ∈ tl9, I < p.1 ∧ C < p.1 ∧ D < p.1 ∧ sA < p.1 := fun p hp => ⟨l9 (I, oI) (by k_mem) p hp, l9 (C, oC2) (by k_mem) p hp, l9 (D, lst ys) (by k_mem) p hp, l9 (sA, o) (by k_mem) p hp⟩
    refine ⟨_, _, ys, (sA, oN) :: (L0 + 1, cO) :: (tl ++ tl9), oC2, mC2, rfl, by k_asm, hC2, News.sub N9 (by k_extra "X my sub"), Off3.of fun p hp => ?_, ?_, oN, tl ++ tl9, ds ++ [dN], rfl, hSo9, ?_, by simp [hyl], ?_, ?_⟩
    · rcases List.mem_cons.mp hp with rfl | hp
      · exact ⟨Nat.ne_of_lt i1, Nat.ne_of_lt i2, Nat.ne_of_lt i3⟩
      rcases List.mem_cons.mp hp with rfl | hp
      · exact off.mem _ (.tail _ (.head _))
      rcases List.mem_append.mp hp with hp | hp
      · exact off.mem _ (.tail _ (.tail _ hp))
      · have := hl9 p hp
        exact ⟨Nat.ne_of_gt this.1, Nat.ne_of_gt this.2.1, Nat.ne_of_gt this.2.2.1⟩
    · rw [sizeLine_eq]; omega
    · intro p hp
      rcases List.mem_append.mp hp with hp | hp
      · exact htl p hp
      · exact Nat.ne_of_gt (hl9 p hp).2.2.2
    · intro z hz
      rcases List.mem_append.mp hz with hz | hz
      · exact hok z hz
      · rw [List.mem_singleton.mp hz]; exact hO9
    · exact (hA.imp fun _ _ x => DictIn.mono x (by k_extra "X my sub")).append (.cons (hD9.mono (by k_extra "X my sub")) .nil)
  · intro D ys nx h tk hp98 hD h2 tk2 F2 N2
    refine hideG fun hG9 kG9 => ?_
    obtain ⟨o, tl, ds, rfl, hSo, htl, hyl, hok, hA⟩ := hp98
    refine kG9 ?_
    clear kG9 hG9
    have hdl := hA.length
    have kR : ListIn (DictIn w) ((D, lst ys) :: (sA, o) :: (L0 + 1, cO) :: tl) (.ref D) ds := ⟨D, _, ys, rfl, .head _, hA.imp fun _ _ x => DictIn.mono x (by k_extra "X my sub")⟩
    refine hideG fun hG9 kG9 => ?_
    obtain ⟨v0, d0, hv0, hd00, hD0⟩ := hA.at (show 0 < ys.length by omega)
    refine kG9 ?_
    clear kG9 hG9
    obtain ⟨_, e0⟩ := hD0.isRef
    subst e0
    have ok0 := hok _ (List.mem_of_getElem? hd00)
    k_steps
    unfold MaskedAt
    refine' SaysT.use (masked_right_says ?mdh ok0) ?mdB ?mdF ?mdX ?mdN ?mdT ?mdK ?mdD ?mdU ?_
    case mdB => exact K1
    case mdF => k_asm
    case mdX => exact KX
    case mdN => k_asm
    case mdT => exact T
    case mdK => first | exact rfl | assumption
    case mdD => ktr_room
    case mdU => ktr_units
    case mdh => exact DictIn.mono hD0 (by k_extra "X my sub")
    intro h9 tk9 st9
    walk_at "Stop"
    exact ⟨_, _, rfl, rfl, st9⟩

theorem off_F30 : True := by
  k_with "off F30" => skip
  trivial
end
end Mine
end
set_option maxRecDepth 100000 in
theorem PySem.Challenge.cw_pc0368_01_holds : PySem.Challenge.rw_pc0368_01.Holds := by
  exact Mine.law_holds
