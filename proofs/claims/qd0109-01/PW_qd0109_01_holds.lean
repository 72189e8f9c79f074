import PyProof.Rows.All
import Wide.All
import OpenK.AllK
import Wide.FinOn
import PySem.Challenge.RW_qd0109_01
open PySem PySem.W PyProof.Rows
set_option Elab.async false
namespace Mine
/-- the duty of the head behind the plain opening, which the library has run already, over the library's quick twins of the machine -/
abbrev Duty (p q : Program) (loose : List Str) (Xt : Shared → Bool) {α : Type} (Yf : Shared → α) (Ya : World → α) (N : Nat) : Prop :=
  ∀ w : World, (fun os => (PySem.W.Fast.tw14082659384304107361 PySem.W.Fast.tw14364793385576792824 p w (boot_heap w.params).objs.size ((boot_heap w.params).nsMap mainGlobals "__annotations__") N ⟨boot_heap w.params, Array.mk [], boot_drawn, boot_toks, os⟩ (topStub p)).map (fun s =>
    ((boot_heap w.params).isNs mainGlobals, staticsOk (importedModules p.main.body) (boot_heap w.params) s.heap && namesBound p s.heap && gensDone s && laidKept (boot_heap w.params) s.heap, PySem.W.Fast.tw4187177175401517315 q loose (importedModules p.main.body) Xt true s, Yf s))) = fun _ => some (true, true, openGood q loose, Ya w)
theorem opens : opening PySem.Challenge.rw_qd0109_01.row.prog = plainProg PySem.Challenge.rw_qd0109_01.row.prog.main.scope.names := rfl
theorem fences (s : Shared) : fenceModules? PySem.Challenge.rw_qd0109_01.row.prog s = some s := rfl
theorem duty {q : Program} {loose : List Str} {Xt : Shared → Bool} {α : Type} {Yf : Shared → α} {Ya : World → α} {N : Nat} (h : Duty PySem.Challenge.rw_qd0109_01.row.prog q loose Xt Yf Ya N) (hN : Nat.ble 600 N = true) :
    LeftO PySem.Challenge.rw_qd0109_01.row.prog q loose Xt Yf Ya N := fun w => by
  obtain ⟨⟨hp, gs, d, k, os⟩, e, e'⟩ := Option.map_eq_some_iff.mp (boot_open opens hN fences w)
  obtain ⟨rfl, rfl, rfl, rfl⟩ : hp = boot_heap w.params ∧ gs = Array.mk [] ∧ d = boot_drawn ∧ k = boot_toks := by simpa using e'
  have h2 := congrFun (h w) os
  rw [← PySem.W.Fast.te14082659384304107361, ← PySem.W.Fast.te14364793385576792824, ← PySem.W.Fast.te4187177175401517315] at h2
  obtain ⟨s1, e1, e2⟩ := Option.map_eq_some_iff.mp h2
  obtain ⟨a1, a2, a3, a4⟩ : _ ∧ _ ∧ _ ∧ _ := by simpa only [Prod.mk.injEq] using e2
  unfold openEnds
  rw [e]
  show Option.map _ (topFrom _ _ _ _ _) = _
  unfold topFrom
  dsimp only
  rw [a1, e1]
  show Option.map _ (match staticsOk (importedModules PySem.Challenge.rw_qd0109_01.row.prog.main.body) (boot_heap w.params) s1.heap && namesBound PySem.Challenge.rw_qd0109_01.row.prog s1.heap && gensDone s1 && laidKept (boot_heap w.params) s1.heap with | true => some s1 | false => none) = _
  rw [a2]
  exact congrArg some (Prod.ext a3 a4)
end Mine
/- o_head names its lemma by a plain word, so that within the namespace Mine this one is found first; it states the duty of the head behind the plain opening, over the quick twins, and o_head then proves it at once: no tables are laid (13 MB) -/
namespace Mine.PySem.W
/-- the library's head with that duty in the place of its own -/
theorem holds_open {q : Program} {loose : List Str} {Xt : Shared → Bool} {XP : (Str → Option Value) → Heap → Prop} {α : Type} {Yf : Shared → α} {Ya : World → α} {YP : World → Heap → Prop} {d : DefRec} {kwd : List (Str × PySem.Expr)} {N : Nat} (left : Duty PySem.Challenge.rw_qd0109_01.row.prog q loose Xt Yf Ya (N + 600)) :
    type_of% (@_root_.PySem.W.holds_open PySem.Challenge.rw_qd0109_01.row q loose Xt XP α Yf Ya YP d kwd (N + 600) (duty left (Nat.ble_eq.mpr (Nat.le_add_left 600 N)))) :=
  @_root_.PySem.W.holds_open PySem.Challenge.rw_qd0109_01.row q loose Xt XP α Yf Ya YP d kwd (N + 600) (duty left (Nat.ble_eq.mpr (Nat.le_add_left 600 N)))
end Mine.PySem.W
namespace Mine
set_option maxRecDepth 100000 in
set_option maxHeartbeats 8000000 in
open_top hd for PySem.Challenge.rw_qd0109_01
end Mine
namespace Mine
/-- what a call of the def at f does: the written objects pre are behind it nw (same addresses), the new ones are new; all else (rest) is as it was -/
def Does (w : World) (f : Addr) (dN uN : Nat) (args : List Value) (pre : List (Addr × Obj)) (post : Value → List (Addr × Obj) → List (Addr × Obj) → Prop) : Prop :=
  ∀ (mean : ExcName → Option Value) (mg mb : Str → Option Value) (dp un : Nat) (gd : Option (List Code)) (cn : Str) (cs : Scope) (a : Addr) (ccd : Value) (cl : List (Str × Addr)) (outer : List Env) (A₀ : Around) (base h₀ : Heap) (L : Addr)
    (m : Str → Option Value) (rest : List (Addr × Obj)) (s : Shared) (Q E : Value → Shared → Prop),
    Below A₀ base outer h₀ → Fr h₀ L s.heap m → (hd.heap_39 w.params).In h₀ → News h₀ L s.heap (pre ++ rest) → Top hd.view_39 (looseW hd.view_39 []) mean mg mb h₀ → cs.kind = .function →
    OwnOff rest (pre.map (·.1)) → dp + dN < recursionLimit → un + uN < cLine →
    (∀ r nw new h' tk', post r nw new → nw.map (·.1) = pre.map (·.1) → Fr h₀ L h' m → News h₀ L h' (new ++ (nw ++ rest)) → (∀ q ∈ pre ++ rest, ∀ p ∈ new, q.1 ≠ p.1) → Q r { s with heap := h', toks := tk' }) →
    wpAny (model PySem.Challenge.rw_qd0109_01.row.prog w) (ktrTop dp un gd cn cs L a ccd cl outer) (call (.ref f) args) Q E s

/-- the use of a contract at a call -/
theorem does_use {w : World} {f : Addr} {dN uN : Nat} {args : List Value} {pre : List (Addr × Obj)} {post : Value → List (Addr × Obj) → List (Addr × Obj) → Prop}
    {mean : ExcName → Option Value} {mg mb : Str → Option Value} {dp un : Nat} {gd : Option (List Code)} {cn : Str} {cs : Scope} {a : Addr} {ccd : Value} {cl : List (Str × Addr)} {outer : List Env} {A₀ : Around} {base h₀ : Heap} {L : Addr}
    {m : Str → Option Value} {news : List (Addr × Obj)} {s : Shared} {Q E : Value → Shared → Prop} (C : Does w f dN uN args pre post)
    (B : Below A₀ base outer h₀) (F : Fr h₀ L s.heap m) (X : (hd.heap_39 w.params).In h₀) (N : News h₀ L s.heap news) (T : Top hd.view_39 (looseW hd.view_39 []) mean mg mb h₀) (hk : cs.kind = .function)
    (hsub : ∀ p ∈ pre, p ∈ news) (hd : dp + dN < recursionLimit) (hu : un + uN < cLine)
    (ret : ∀ r nw new h' tk', post r nw new → nw.map (·.1) = pre.map (·.1) → Fr h₀ L h' m →
      (∀ news', (∀ p ∈ news', p ∈ new ∨ p ∈ nw ∨ (p ∈ news ∧ ∀ q ∈ pre, q ∈ nw ∨ p.1 ≠ q.1)) → News h₀ L h' news') → (∀ q ∈ news, ∀ p ∈ new, q.1 ≠ p.1) → Q r { s with heap := h', toks := tk' }) :
    wpAny (model PySem.Challenge.rw_qd0109_01.row.prog w) (ktrTop dp un gd cn cs L a ccd cl outer) (call (.ref f) args) Q E s := by
  have split : ∀ p ∈ news, p ∈ pre ∨ p ∈ news.filter (fun p => decide (p.1 ∉ pre.map (·.1))) := fun p hp => by
    by_cases h : p.1 ∈ pre.map (·.1)
    · obtain ⟨q, hq, e⟩ := List.mem_map.mp h
      have h1 := (N p hp).1
      have h2 := (N q (hsub q hq)).1
      rw [← e, h2] at h1
      have : q = p := Prod.ext e (Option.some.inj h1)
      exact .inl (this ▸ hq)
    · exact .inr (List.mem_filter.mpr ⟨hp, by simpa using h⟩)
  refine C _ _ _ _ _ _ _ _ _ _ _ _ _ _ _ _ _ (news.filter (fun p => decide (p.1 ∉ pre.map (·.1)))) _ _ _ B F X (fun p hp => N p ((List.mem_append.mp hp).elim (hsub p) fun h => (List.mem_filter.mp h).1)) T hk ?_ hd hu ?_
  · intro p hp b hb e
    have := (List.mem_filter.mp hp).2
    rw [decide_eq_true_eq] at this
    exact this (e ▸ hb)
  · intro r nw new h' tk' hp hm F' N' hl
    refine ret r nw new h' tk' hp hm F' (fun news' hn p hp' => ?_) fun q hq p hp' => ?_
    · rcases hn p hp' with h | h | ⟨h, h2⟩
      · exact N' p (List.mem_append_left _ h)
      · exact N' p (List.mem_append_right _ (List.mem_append_left _ h))
      · rcases split p h with h3 | h3
        · rcases h2 p h3 with h4 | h4
          · exact N' p (List.mem_append_right _ (List.mem_append_left _ h4))
          · exact absurd rfl h4
        · exact N' p (List.mem_append_right _ (List.mem_append_right _ h3))
    · exact hl q (List.mem_append.mpr (split q hq)) p hp'

/-- a contract that changes nothing and makes nothing -/
theorem does_use0 {w : World} {f : Addr} {dN uN : Nat} {args : List Value} {pre : List (Addr × Obj)} {R : Value → Prop}
    {mean : ExcName → Option Value} {mg mb : Str → Option Value} {dp un : Nat} {gd : Option (List Code)} {cn : Str} {cs : Scope} {a : Addr} {ccd : Value} {cl : List (Str × Addr)} {outer : List Env} {A₀ : Around} {base h₀ : Heap} {L : Addr}
    {m : Str → Option Value} {news : List (Addr × Obj)} {s : Shared} {Q E : Value → Shared → Prop} (C : Does w f dN uN args pre (fun r nw new => new = [] ∧ nw = pre ∧ R r))
    (B : Below A₀ base outer h₀) (F : Fr h₀ L s.heap m) (X : (hd.heap_39 w.params).In h₀) (N : News h₀ L s.heap news) (T : Top hd.view_39 (looseW hd.view_39 []) mean mg mb h₀) (hk : cs.kind = .function)
    (hsub : ∀ p ∈ pre, p ∈ news) (hd : dp + dN < recursionLimit) (hu : un + uN < cLine)
    (ret : ∀ r h' tk', R r → Fr h₀ L h' m → News h₀ L h' news → Q r { s with heap := h', toks := tk' }) :
    wpAny (model PySem.Challenge.rw_qd0109_01.row.prog w) (ktrTop dp un gd cn cs L a ccd cl outer) (call (.ref f) args) Q E s :=
  does_use C B F X N T hk hsub hd hu fun r nw new h' tk' hp _ F' N' _ => by
    obtain ⟨rfl, rfl, hr⟩ := hp
    exact ret r h' tk' hr F' (N' news fun p hp => .inr (.inr ⟨hp, fun q hq => .inl hq⟩))

/-- a contract that changes the object at d alone and makes nothing -/
theorem does_use1 {w : World} {f : Addr} {dN uN : Nat} {args : List Value} {pre : List (Addr × Obj)} {d : Addr} {o : Obj} {R : Value → Obj → Prop} {g : Obj → List (Addr × Obj)} {k : Obj → List (Addr × Obj)}
    {mean : ExcName → Option Value} {mg mb : Str → Option Value} {dp un : Nat} {gd : Option (List Code)} {cn : Str} {cs : Scope} {a : Addr} {ccd : Value} {cl : List (Str × Addr)} {outer : List Env} {A₀ : Around} {base h₀ : Heap} {L : Addr}
    {m : Str → Option Value} {news : List (Addr × Obj)} {s : Shared} {Q E : Value → Shared → Prop} (C : Does w f dN uN args pre (fun r nw new => new = [] ∧ ∃ o', nw = k o' ∧ R r o'))
    (hk1 : ∀ o', (d, o') ∈ k o') (hk2 : ∀ o', ∀ p ∈ pre, p.1 = d ∨ p ∈ k o')
    (B : Below A₀ base outer h₀) (F : Fr h₀ L s.heap m) (X : (hd.heap_39 w.params).In h₀) (N : News h₀ L s.heap news) (T : Top hd.view_39 (looseW hd.view_39 []) mean mg mb h₀) (hk : cs.kind = .function)
    (hsub : ∀ p ∈ pre, p ∈ news) (hd : dp + dN < recursionLimit) (hu : un + uN < cLine) (U : UpdF d o news g)
    (ret : ∀ r o' h' tk', R r o' → Fr h₀ L h' m → News h₀ L h' (g o') → Q r { s with heap := h', toks := tk' }) :
    wpAny (model PySem.Challenge.rw_qd0109_01.row.prog w) (ktrTop dp un gd cn cs L a ccd cl outer) (call (.ref f) args) Q E s :=
  does_use C B F X N T hk hsub hd hu fun r nw new h' tk' hp _ F' N' _ => by
    obtain ⟨rfl, o', rfl, hr⟩ := hp
    refine ret r o' h' tk' hr F' (N' _ fun p hp => ?_)
    obtain ⟨pr, po, e, eg, h1, h2⟩ := U.split
    rw [eg o'] at hp
    have two : p ∈ news ∧ p.1 ≠ d → p ∈ ([] : List (Addr × Obj)) ∨ p ∈ k o' ∨ (p ∈ news ∧ ∀ q ∈ pre, q ∈ k o' ∨ p.1 ≠ q.1) := fun ⟨a, b⟩ =>
      .inr (.inr ⟨a, fun q hq => (hk2 o' q hq).elim (fun z => .inr (z ▸ b)) .inl⟩)
    rcases List.mem_append.mp hp with h | h
    · exact two ⟨e ▸ List.mem_append_left _ h, h1 p h⟩
    · rcases List.mem_cons.mp h with rfl | h
      · exact .inr (.inl (hk1 o'))
      · exact two ⟨e ▸ List.mem_append_right _ (.tail _ h), h2 p h⟩

/-- addresses apart, by a rank -/
def Rk (rk : Nat → Nat) (a i : Nat) : Prop := rk a = i
theorem ne_rk {rk : Nat → Nat} {a b i j : Nat} (h1 : Rk rk a i) (h2 : Rk rk b j) (h : i ≠ j) : a ≠ b := fun e => h (by unfold Rk at h1 h2; rw [← h1, ← h2, e])
theorem wrap_bits {p : Int} (h0 : 0 ≤ p) (h1 : p < 2 ^ 64) : Builtin.bitAnd p (1 * 2 ^ Int.toNat 64 - 1) = p := by
  have := kbt_mask p 64
  rw [show (1 * 2 ^ Int.toNat 64 - 1 : Int) = 2 ^ 64 - 1 by decide, this]
  exact Int.emod_eq_of_lt h0 h1
/-- a dict of ints as pairs of ints -/
def intPairs (l : List (Int × Int)) : List (PyData × PyData) := l.map fun p => (.int p.1, .int p.2)
def getI : List (Int × Int) → Int → Option Int
  | [], _ => none
  | p :: r, k => if p.1 = k then some p.2 else getI r k
def putI (l : List (Int × Int)) (k v : Int) : List (Int × Int) := if l.any (fun p => decide (p.1 = k)) then l.map (fun p => if p.1 = k then (p.1, v) else p) else l ++ [(k, v)]
def DI (w : World) (o : Obj) (l : List (Int × Int)) : Prop := ∃ kvs, o.IsDictOf (intKind PySem.Challenge.rw_qd0109_01.row.prog w) kvs ∧ PyProof.V.FlatPairs PyData.int kvs (intPairs l)
theorem lookup_pairs (l : List (Int × Int)) (k : Int) : PySem.Spec.lookup (.int k) (intPairs l) = (getI l k).map .int := by
  induction l with
  | nil => rfl
  | cons p r ih =>
    show PySem.Spec.lookup (.int k) ((.int p.1, .int p.2) :: intPairs r) = _
    simp only [PySem.Spec.lookup, getI, PyProof.V.same_int, decide_eq_true_eq]
    split
    · rfl
    · exact ih
theorem put_pairs (l : List (Int × Int)) (k v : Int) : PyProof.V.putD (.int k) (.int v) (intPairs l) = intPairs (putI l k v) := by
  unfold PyProof.V.putD putI
  have h1 : (intPairs l).any (fun p => PySem.Spec.same p.1 (.int k)) = l.any (fun p => decide (p.1 = k)) := by
    unfold intPairs
    rw [List.any_map]
    congr 1
  rw [h1]
  split
  · unfold intPairs
    rw [List.map_map, List.map_map]
    congr 1
    funext p
    simp only [Function.comp, PyProof.V.same_int, decide_eq_true_eq]
    split <;> rfl
  · unfold intPairs
    rw [List.map_append]
    rfl
theorem getI_put (l : List (Int × Int)) (k v j : Int) : getI (putI l k v) j = if j = k then some v else getI l j := by
  have look (P : List (Int × Int)) (Q : Option Int) : ((getI P j).map PyData.int) = Q.map PyData.int → getI P j = Q := fun h => by
    cases h1 : getI P j <;> cases h2 : Q <;> rw [h1, h2] at h <;> first | rfl | (cases h; rfl) | cases h
  refine look _ _ ?_
  unfold putI
  induction l with
  | nil =>
    simp only [List.any_nil, Bool.false_eq_true, if_false, List.nil_append, getI]
    by_cases h : k = j
    · subst h; simp
    · rw [if_neg h, if_neg (fun e => h e.symm)]
  | cons p r ih =>
    by_cases hp : p.1 = k
    · simp only [List.any_cons, hp, decide_true, Bool.true_or, if_true, List.map_cons, getI]
      by_cases hj : k = j
      · rw [if_pos hj, if_pos hj.symm]
      · rw [if_neg hj, if_neg (fun e => hj e.symm), if_neg hj]
        congr 1
        clear ih
        induction r with
        | nil => rfl
        | cons q r ih =>
          simp only [List.map_cons, getI]
          by_cases hq : q.1 = k
          · rw [if_pos hq]
            simp only [hq]
            rw [if_neg hj, if_neg hj]; exact ih
          · rw [if_neg hq]
            split
            · rfl
            · exact ih
    · simp only [List.any_cons, hp, decide_false, Bool.false_or]
      by_cases ha : (r.any fun p => decide (p.1 = k)) = true
      · rw [if_pos ha] at ih ⊢
        simp only [List.map_cons, if_neg hp, getI]
        by_cases hj : p.1 = j
        · rw [if_pos hj, if_pos hj, if_neg (fun e => hp (hj.trans e))]
        · rw [if_neg hj, if_neg hj]; exact ih
      · rw [if_neg ha] at ih ⊢
        simp only [List.cons_append, getI]
        by_cases hj : p.1 = j
        · rw [if_pos hj, if_pos hj, if_neg (fun e => hp (hj.trans e))]
        · rw [if_neg hj, if_neg hj]; exact ih
theorem putI_len (l : List (Int × Int)) (k v : Int) : (putI l k v).length ≤ l.length + 1 := by
  unfold putI
  split
  · rw [List.length_map]; omega
  · rw [List.length_append]; simp
theorem no_new {l : List (Addr × Obj)} : ∀ q ∈ l, ∀ p ∈ ([] : List (Addr × Obj)), q.1 ≠ p.1 := fun _ _ _ hp => nomatch hp
theorem off1_mem {D : Addr} : ∀ {l : List (Addr × Obj)}, LCg.Off1 D l → ∀ q ∈ l, q.1 ≠ D
  | [], _, _, h => nomatch h
  | _ :: _, x, q, h => by
    rcases List.mem_cons.mp h with rfl | h
    · exact x.1
    · exact off1_mem x.2 q h
theorem off1_of {D : Addr} : ∀ {l : List (Addr × Obj)}, (∀ q ∈ l, q.1 ≠ D) → LCg.Off1 D l
  | [], _ => trivial
  | _ :: _, h => ⟨h _ (.head _), off1_of fun q hq => h q (.tail _ hq)⟩
theorem off1_lt {D : Addr} : ∀ {l : List (Addr × Obj)}, AllLt D l → LCg.Off1 D l
  | [], _ => trivial
  | _ :: _, h => ⟨Nat.ne_of_lt h.1, off1_lt h.2⟩
theorem one_new {D : Addr} {o : Obj} {all : List (Addr × Obj)} (h : LCg.Off1 D all) : ∀ q ∈ all, ∀ p ∈ [(D, o)], q.1 ≠ p.1 := fun q hq p hp => by
  rw [List.mem_singleton.mp hp]; exact off1_mem h q hq
/-- a contract that changes nothing and makes one object -/
theorem does_useN {w : World} {f : Addr} {dN uN : Nat} {args : List Value} {pre : List (Addr × Obj)} {R : Value → Addr → Obj → Prop}
    {mean : ExcName → Option Value} {mg mb : Str → Option Value} {dp un : Nat} {gd : Option (List Code)} {cn : Str} {cs : Scope} {a : Addr} {ccd : Value} {cl : List (Str × Addr)} {outer : List Env} {A₀ : Around} {base h₀ : Heap} {L : Addr}
    {m : Str → Option Value} {news : List (Addr × Obj)} {s : Shared} {Q E : Value → Shared → Prop} (C : Does w f dN uN args pre (fun r nw new => nw = pre ∧ ∃ D o, new = [(D, o)] ∧ R r D o))
    (B : Below A₀ base outer h₀) (F : Fr h₀ L s.heap m) (X : (hd.heap_39 w.params).In h₀) (N : News h₀ L s.heap news) (T : Top hd.view_39 (looseW hd.view_39 []) mean mg mb h₀) (hk : cs.kind = .function)
    (hsub : ∀ p ∈ pre, p ∈ news) (hd : dp + dN < recursionLimit) (hu : un + uN < cLine)
    (ret : ∀ r D o h' tk', R r D o → Fr h₀ L h' m → News h₀ L h' ((D, o) :: news) → LCg.Off1 D news → Q r { s with heap := h', toks := tk' }) :
    wpAny (model PySem.Challenge.rw_qd0109_01.row.prog w) (ktrTop dp un gd cn cs L a ccd cl outer) (call (.ref f) args) Q E s :=
  does_use C B F X N T hk hsub hd hu fun r nw new h' tk' hp _ F' N' hn => by
    obtain ⟨rfl, D, o, rfl, hr⟩ := hp
    refine ret r D o h' tk' hr F' (N' _ fun p hp => ?_) (off1_of fun q hq => hn q hq _ (.head _))
    rcases List.mem_cons.mp hp with rfl | hp
    · exact .inl (.head _)
    · exact .inr (.inr ⟨hp, fun q hq => .inl hq⟩)
open PySem PySem.W PyProof.Rows PyProof.V
local macro_rules | `(tactic| k_room) => `(tactic| ktr_room)
local macro_rules | `(tactic| k_ne) => `(tactic| first | (refine neN ?_; (try dsimp only); exact ne_rk (by assumption) (by assumption) (by decide)) | (refine neN ?_; (try dsimp only); omega))
local macro_rules | `(tactic| k_units) => `(tactic| ktr_units)
set_option maxRecDepth 100000 in
set_option maxHeartbeats 8000000 in
theorem does_wrap (w : World) (p : Int) (t t2 : Tok) (h0 : 0 ≤ p) (h1 : p < 2 ^ 64) : Does w 89 2 16 [.int p t, .int 64 t2] [] (fun r nw new => new = [] ∧ nw = [] ∧ ∃ t', r = .int p t') := by
  unfold Does
  k_fill
  intro mean mg mb dp un gd cn cs a ccd cl outer A₀ base h₀ L m rest s Q E B F X N T hk hoff hdN huN hret
  w_on
  refine wpAny_call ?_
  k_dflt ktr_enter
  k_steps
  rw [wrap_bits h0 h1]
  exact hret _ [] [] _ _ ⟨rfl, rfl, _, rfl⟩ rfl (by assumption) (by assumption) no_new
local macro_rules | `(tactic| walk_at "call ref") => `(tactic| (k_here; (with_reducible show wpAny _ _ (call (Value.ref 89) _ _) _ _ _); (k_dflt (refine' does_use0 (does_wrap _ _ _ _ ?p0 ?p1) ?kB ?kF ?kX ?kN ?kT ?kk ?ks ?kd ?ku ?_; (case kB => k_asm); (case kF => k_asm); (case kX => k_asm); (case kN => k_asm); (case kT => k_asm); (case kk => first | exact rfl | assumption); (case p0 => assumption); (case p1 => assumption); (case ks => exact fun _ h => nomatch h); (case kd => ktr_room); (case ku => ktr_units); intro r9 h9 tk9 ho9 F' N'; (obtain ⟨t9, e9⟩ := ho9; subst e9); (try dsimp only); (try k_sweep)))))
set_option maxRecDepth 100000 in
set_option maxHeartbeats 8000000 in
theorem does_octet (w : World) (Mi Md H : Addr) (tk : Tok) (hh : Int) (oH : Obj) (l : List (Int × Int)) (p v : Int) (t : Tok)
    (hlo : (H == sysModules) = false) (hD : DI w oH l) (h0 : 0 ≤ p) (h1 : p < 2 ^ 64) (hv : getI l p = some v) :
    Does w 110 4 40 [.ref Mi, .int p t] [(Mi, instObj 179 Md), (Md, dictOf [⟨hh, .str "held" tk, .ref H⟩] 1), (H, oH)]
      (fun r nw new => new = [] ∧ nw = [(Mi, instObj 179 Md), (Md, dictOf [⟨hh, .str "held" tk, .ref H⟩] 1), (H, oH)] ∧ ∃ t', r = .int v t') := by
  unfold Does
  k_fill
  intro mean mg mb dp un gd cn cs a ccd cl outer A₀ base h₀ L m rest s Q E B F X N T hk hoff hdN huN hret
  simp only [List.cons_append, List.nil_append] at N
  obtain ⟨kvs, hdi, hf⟩ := hD
  have hv' : PySem.Spec.lookup (.int p) (intPairs l) = some (.int v) := by rw [lookup_pairs, hv]; rfl
  w_on
  refine wpAny_call ?_
  k_dflt ktr_enter
  k_steps
  exact hret _ _ [] _ _ ⟨rfl, rfl, _, rfl⟩ rfl (by assumption) (by assumption) no_new
local macro_rules | `(tactic| walk_at "setItem ref int") => `(tactic| (k_here; k_dflt (refine' setItem_K PyProof.V.same_int (intKind_is _ _ _ _) ?v ?F ?N ?U ?d ?f ?_ ?z; (case F => k_asm); (case N => k_asm); (case U => k_updF); (case d => k_asm); (case f => k_asm); (case z => assumption); (case v => k_flat)); intro h' o' F' N' hd' hf'; (try dsimp only at N'); (try k_sweep)))
set_option maxRecDepth 100000 in
set_option maxHeartbeats 8000000 in
theorem does_set_octet (w : World) (Mi Md H : Addr) (tk : Tok) (hh : Int) (oH : Obj) (l : List (Int × Int)) (p v : Int) (t t2 : Tok) {rk : Nat → Nat} (r3 : Rk rk Mi 3) (r4 : Rk rk Md 4) (r5 : Rk rk H 5)
    (hD : DI w oH l) (h0 : 0 ≤ p) (h1 : p < 2 ^ 64) (hlen : l.length ≤ 1000) :
    Does w 117 4 40 [.ref Mi, .int p t, .int v t2] [(Mi, instObj 179 Md), (Md, dictOf [⟨hh, .str "held" tk, .ref H⟩] 1), (H, oH)]
      (fun r nw new => new = [] ∧ ∃ o', nw = [(Mi, instObj 179 Md), (Md, dictOf [⟨hh, .str "held" tk, .ref H⟩] 1), (H, o')] ∧ r = .none ∧ DI w o' (putI l p v)) := by
  unfold Does
  k_fill
  intro mean mg mb dp un gd cn cs a ccd cl outer A₀ base h₀ L m rest s Q E B F X N T hk hoff hdN huN hret
  simp only [List.cons_append, List.nil_append] at N
  simp only [List.map_cons, List.map_nil] at hoff
  obtain ⟨kvs, hdi, hf⟩ := hD
  have hz : (intPairs l).length ≤ sizeLine := by rw [sizeLine_eq]; unfold intPairs; rw [List.length_map]; omega
  w_on
  refine wpAny_call ?_
  k_dflt ktr_enter
  k_steps
  rename Obj.IsDictOf _ _ (stored _ _ _) => hds
  rename FlatPairs _ (stored _ _ _) _ => hfs
  rw [put_pairs] at hfs
  exact hret _ _ [] _ _ ⟨rfl, _, rfl, rfl, _, hds, hfs⟩ rfl (by assumption) (by assumption) no_new
local macro_rules | `(tactic| walk_at "subscriptTail Name Constant ref int") => `(tactic| (k_here; (with_reducible show wpAny _ _ (subscriptTail _ _ (Value.ref _) (Value.int _ _)) _ _ _); (with_unfolding_all refine' item_litK (vs := [_, _, _]) ?k1 ?k2 ?k3 ?k4 ?_ ?k6; (case k1 => exact News.isList (by k_asm) (by k_mem)); (case k2 => decide); (case k3 => decide); (case k4 => exact rfl); (case k6 => with_unfolding_all rfl); k_whole)))
theorem fm_lo (a : Int) {b : Int} (h : 2 ≤ b) : 0 ≤ a.fmod b := Int.fmod_nonneg_of_pos a (by omega)
theorem fm_hi (a : Int) {b : Int} (h : 2 ≤ b) : a.fmod b < b := Int.fmod_lt_of_pos a (by omega)
theorem fd_lo {a b : Int} (h0 : 0 ≤ a) (h : 2 ≤ b) : 0 ≤ a.fdiv b := by
  rw [Int.fdiv_eq_ediv_of_nonneg _ (by omega)]; exact Int.ediv_nonneg h0 (by omega)
set_option maxRecDepth 100000 in
set_option maxHeartbeats 8000000 in
theorem does_take (w : World) (Pn : Addr) (st sd ct many : Int) (t1 t2 t3 t : Tok) (ep : Nat) (hst : 0 ≤ st) (hsd : 0 ≤ sd) (hsd2 : sd < 2147483647) (hct : 0 ≤ ct) (hct2 : ct ≤ 1000) (hm : 2 ≤ many) (hm2 : many ≤ 204) :
    Does w 204 2 16 [.ref Pn, .int many t] [(Pn, listOf #[.int st t1, .int sd t2, .int ct t3] ep)]
      (fun r nw new => new = [] ∧ ∃ o', nw = [(Pn, o')] ∧ ∃ v tv st' sd' ct' t1' t2' t3', r = .int v tv ∧ o' = listOf #[.int st' t1', .int sd' t2', .int ct' t3'] ep ∧ 0 ≤ v ∧ v < many ∧ 0 ≤ st' ∧ 0 ≤ sd' ∧ sd' < 2147483647 ∧ 0 ≤ ct' ∧ ct' ≤ ct + 1) := by
  unfold Does
  k_fill
  intro mean mg mb dp un gd cn cs a ccd cl outer A₀ base h₀ L m rest s Q E B F X N T hk hoff hdN huN hret
  simp only [List.cons_append, List.nil_append] at N
  simp only [List.map_cons, List.map_nil] at hoff
  w_on
  refine wpAny_call ?_
  k_dflt ktr_enter
  k_steps
  · rename News _ _ _ _ => kN
    refine hret _ [(Pn, _)] [] _ _ ?post9 (by rfl) (by assumption) kN no_new
    exact ⟨rfl, _, rfl, _, _, _, _, _, _, _, _, rfl, rfl, fm_lo _ hm, fm_hi _ hm, fd_lo hst hm, hsd, hsd2, hct, by omega⟩
  · rename News _ _ _ _ => kN
    refine hret _ [(Pn, _)] [] _ _ ?post8 (by rfl) (by assumption) kN no_new
    exact ⟨rfl, _, rfl, _, _, _, _, _, _, _, _, rfl, rfl, fm_lo _ hm, fm_hi _ hm, hst, fm_lo _ (by decide), fm_hi _ (by decide), by omega, by omega⟩
local macro_rules | `(tactic| walk_at "call ref") => `(tactic| (k_here; (with_reducible show wpAny _ _ (call (Value.ref 110) _ _) _ _ _); (k_dflt (refine' does_use0 (does_octet _ _ _ _ _ _ _ _ _ _ _ ?lo ?hD ?p0 ?p1 ?hv) ?kB ?kF ?kX ?kN ?kT ?kk ?ks ?kd ?ku ?_; (case kB => k_asm); (case kF => k_asm); (case kX => k_asm); (case kN => k_asm); (case kT => k_asm); (case kk => first | exact rfl | assumption); (case ks => (refine List.forall_mem_cons.mpr ⟨by k_mem, ?_⟩; refine List.forall_mem_cons.mpr ⟨by k_mem, ?_⟩; refine List.forall_mem_cons.mpr ⟨by k_mem, ?_⟩; exact List.forall_mem_nil _)); (case lo => assumption); (case hD => assumption); (case p0 => omega); (case p1 => omega); (case hv => first | assumption | ((rename ∀ k : Int, 0 ≤ k → k < 8 → getI _ (256 + k) = some _ => hM9); exact hM9 _ (by omega) (by omega))); (case kd => ktr_room); (case ku => ktr_units); intro r9 h9 tk9 ho9 F' N'; (obtain ⟨t9, e9⟩ := ho9; subst e9); (try dsimp only); (try k_sweep)))))
set_option maxRecDepth 100000 in
set_option maxHeartbeats 8000000 in
theorem does_octs (w : World) (Mi Md H : Addr) (tk : Tok) (hh : Int) (oH : Obj) (l : List (Int × Int)) (M : Int → Int)
    (hlo : (H == sysModules) = false) (hD : DI w oH l) (hM : ∀ k : Int, 0 ≤ k → k < 8 → getI l (256 + k) = some (M k)) :
    Does w 209 8 80 [.ref Mi] [(Mi, instObj 179 Md), (Md, dictOf [⟨hh, .str "held" tk, .ref H⟩] 1), (H, oH)]
      (fun r nw new => nw = [(Mi, instObj 179 Md), (Md, dictOf [⟨hh, .str "held" tk, .ref H⟩] 1), (H, oH)] ∧
        ∃ D o, new = [(D, o)] ∧ ∃ vs ep, r = .ref D ∧ o = listOf (List.toArray vs) ep ∧ IntsAre vs [M 0, M 1, M 2, M 3, M 4, M 5, M 6, M 7]) := by
  unfold Does
  k_fill
  intro mean mg mb dp un gd cn cs a ccd cl outer A₀ base h₀ L m rest s Q E B F X N T hk hoff hdN huN hret
  simp only [List.cons_append, List.nil_append] at N
  simp only [List.map_cons, List.map_nil] at hoff
  w_on
  refine wpAny_call ?_
  k_dflt (refine' code_defC ?k1 ?k2 ?k3 ?k4 ?k5 ?kA ?kF ?kK ?k6 ?k7 ?k8 ?k9 ?kB ?kD ?_ ?c2 ?c3 ?c4; (case kA => exact rfl); (case kF => exact rfl); (case kK => assumption); (case k1 => k_asm); (case k2 => k_asm); (case k3 => k_asm); (case k4 => k_asm); (case k5 => k_asm); (case k6 => k_is); (case k7 => k_is); (case k8 => ktr_room); (case k9 => exact BindsTo.of_eq rfl); (case kB => exact rfl); (case kD => decide +kernel); (case c2 => exact rfl); (case c3 => exact rfl); (case c4 => exact rfl); k_whole; intro g' L' h' tk' cells' FG' F' N' Y' B' X' T' l1; (try k_lt l1); k_cells Y'; (try simp only [List.cons_append, List.nil_append] at N'); (try dsimp only); (try k_fold))
  k_steps
  rename IntsAre _ (List.map _ (rangeKs _ _)) => hI
  rename News _ _ _ (_ :: _ :: _) => kN
  rename _ ∧ _ ∧ _ ∧ _ ∧ LCg.Off1 _ rest => hne
  exact hret _ [(Mi, _), (Md, _), (H, _)] [(_, _)] _ _ ⟨rfl, _, _, rfl, _, _, rfl, rfl, hI⟩ rfl (by assumption) (fun p hp => kN p (by rcases List.mem_cons.mp hp with h | h; exact h ▸ .head _; exact .tail _ (.tail _ h))) (one_new ⟨hne.2.1, hne.2.2.1, hne.2.2.2.1, hne.2.2.2.2⟩)
local macro_rules | `(tactic| walk_at "call builtin:list.append") => `(tactic| (k_here; (try dsimp only [List.cons_append, List.nil_append]); (with_reducible show wpAny _ _ (call (Value.builtin _) [Value.ref _, _]) _ _ _); k_dflt (refine' append_K ?k1 ?k2 ?k3 ?_ ?z; (case k1 => k_asm); (case k2 => k_asm); (case k3 => k_upd); (case z => assumption); k_whole); intro h' F' N'; (try k_sweep)))
theorem mem_of_any {ps : List Int} {p : Int} (h : (ps.any fun x => x == p) = true) : p ∈ ps := by
  obtain ⟨x, hx, e⟩ := List.any_eq_true.mp h
  exact (beq_iff_eq.mp e) ▸ hx
theorem not_mem_of_any {ps : List Int} {p : Int} (h : (ps.any fun x => x == p) = false) : p ∉ ps := fun hm => by
  have := List.any_eq_false.mp h p hm
  simp at this
theorem ints_snoc {vs : List Value} {ps : List Int} (h : IntsAre vs ps) (p : Int) (t : Tok) : IntsAre (vs ++ [.int p t]) (ps ++ [p]) := by
  induction h with
  | nil => exact IntsAre.cons _ _ IntsAre.nil
  | cons n t _ ih => exact IntsAre.cons _ _ ih
theorem arr_line {vs : List Value} {ps : List Int} (h : IntsAre vs ps) (hl : ps.length ≤ 1000) : (List.toArray vs).size ≤ sizeLine := by
  rw [sizeLine_eq, List.size_toArray, h.length]; omega
set_option maxRecDepth 100000 in
set_option maxHeartbeats 8000000 in
theorem does_put (w : World) (Pi Pd PL KD Mi : Addr) (k1 k2 k3 : Tok) (y1 y2 y3 : Int) (vs : List Value) (ps : List Int) (ep : Nat) (p : Int) (t : Tok) (hps : IntsAre vs ps) (hlen : ps.length ≤ 1000) {rk : Nat → Nat} (r1 : Rk rk Pi 1) (r2 : Rk rk Pd 2) (r7 : Rk rk PL 7) :
    Does w 42 4 40 [.ref Pi, .int p t] [(Pi, instObj 71 Pd), (Pd, dictOf [⟨y1, .str "memory" k1, .ref Mi⟩, ⟨y2, .str "places" k2, .ref PL⟩, ⟨y3, .str "kept" k3, .ref KD⟩] 3), (PL, listOf (List.toArray vs) ep)]
      (fun r nw new => new = [] ∧ ∃ o', nw = [(Pi, instObj 71 Pd), (Pd, dictOf [⟨y1, .str "memory" k1, .ref Mi⟩, ⟨y2, .str "places" k2, .ref PL⟩, ⟨y3, .str "kept" k3, .ref KD⟩] 3), (PL, o')] ∧ r = .none ∧ ∃ vs' ep', o' = listOf (List.toArray vs') ep' ∧ IntsAre vs' (if p ∈ ps then ps else ps ++ [p])) := by
  unfold Does
  k_fill
  intro mean mg mb dp un gd cn cs a ccd cl outer A₀ base h₀ L m rest s Q E B F X N T hk hoff hdN huN hret
  simp only [List.cons_append, List.nil_append] at N
  simp only [List.map_cons, List.map_nil] at hoff
  have hz := arr_line hps hlen
  w_on
  refine wpAny_call ?_
  k_dflt ktr_enter
  k_steps
  · rename News _ _ _ _ => kN
    rename (List.any _ _ = true) => hany
    refine hret _ [(Pi, _), (Pd, _), (PL, _)] [] _ _ ?post9 (by rfl) (by assumption) kN no_new
    exact ⟨rfl, _, rfl, rfl, _, _, rfl, by rw [if_pos (mem_of_any hany)]; exact hps⟩
  · rename News _ _ _ _ => kN
    rename (List.any _ _ = false) => hany
    rw [List.push_toArray] at kN
    refine hret _ [(Pi, _), (Pd, _), (PL, _)] [] _ _ ?post8 (by rfl) (by assumption) kN no_new
    exact ⟨rfl, _, rfl, rfl, _, _, rfl, by rw [if_neg (not_mem_of_any hany)]; exact ints_snoc hps _ _⟩
/-! plain laws: no program in sight -/
def plantL (gl gk : Int → Option Int) (ps : List Int) (p : Int) : Option Int := if p ∈ ps ∧ (gk p = none ∨ gl p ≠ some 204) then some 204 else gl p
def plantK (gl gk : Int → Option Int) (ps : List Int) (p : Int) : Option Int := if p ∈ ps ∧ (gk p = none ∨ gl p ≠ some 204) then gl p else gk p
theorem plant_hit {gl gk L K : Int → Option Int} {pre : List Int} {k v : Int} (hL : ∀ p, L p = plantL gl gk pre p) (hK : ∀ p, K p = plantK gl gk pre p) (hs : (gl k).isSome = true) (hv : L k = some v) (h : K k = none ∨ v ≠ 204) :
    (∀ p, (if p = k then some 204 else L p) = plantL gl gk (pre ++ [k]) p) ∧ (∀ p, (if p = k then some v else K p) = plantK gl gk (pre ++ [k]) p) := by
  have h1 := hL k
  have h2 := hK k
  unfold plantL at h1
  unfold plantK at h2
  have hc : (gk k = none ∨ gl k ≠ some 204) ∧ gl k = some v := by
    by_cases c : k ∈ pre ∧ (gk k = none ∨ gl k ≠ some 204)
    · rw [if_pos c] at h1 h2
      exfalso
      rw [hv] at h1
      cases h1
      rcases h with h | h
      · rw [h] at h2; rw [← h2] at hs; cases hs
      · exact h rfl
    · rw [if_neg c] at h1 h2
      rw [hv] at h1
      refine ⟨?_, h1.symm⟩
      rcases h with h | h
      · exact .inl (h2 ▸ h)
      · exact .inr (by rw [← h1]; intro e; exact h (Option.some.inj e))
  constructor
  · intro p
    by_cases hp : p = k
    · subst hp; rw [if_pos rfl]; unfold plantL; rw [if_pos ⟨by simp, hc.1⟩]
    · rw [if_neg hp, hL p]; unfold plantL; simp [hp]
  · intro p
    by_cases hp : p = k
    · subst hp; rw [if_pos rfl]; unfold plantK; rw [if_pos ⟨by simp, hc.1⟩]; exact hc.2.symm
    · rw [if_neg hp, hK p]; unfold plantK; simp [hp]
theorem plant_miss {gl gk L K : Int → Option Int} {pre : List Int} {k : Int} (hL : ∀ p, L p = plantL gl gk pre p) (hK : ∀ p, K p = plantK gl gk pre p) (hv : L k = some 204) (h : (K k).isSome = true) :
    (∀ p, L p = plantL gl gk (pre ++ [k]) p) ∧ (∀ p, K p = plantK gl gk (pre ++ [k]) p) := by
  have h1 := hL k
  have h2 := hK k
  unfold plantL at h1
  unfold plantK at h2
  have hc : k ∈ pre ∨ ¬ (gk k = none ∨ gl k ≠ some 204) := by
    by_cases c : k ∈ pre ∧ (gk k = none ∨ gl k ≠ some 204)
    · exact .inl c.1
    · rw [if_neg c] at h1 h2
      refine .inr fun q => ?_
      rcases q with q | q
      · rw [h2, q] at h; cases h
      · exact q (h1 ▸ hv)
  constructor
  · intro p
    by_cases hp : p = k
    · subst hp
      rw [hL p]; unfold plantL
      rcases hc with hc | hc
      · simp [hc]
      · rw [if_neg (fun q => hc q.2), if_neg (fun q => hc q.2)]
    · rw [hL p]; unfold plantL; simp [hp]
  · intro p
    by_cases hp : p = k
    · subst hp
      rw [hK p]; unfold plantK
      rcases hc with hc | hc
      · simp [hc]
      · rw [if_neg (fun q => hc q.2), if_neg (fun q => hc q.2)]
    · rw [hK p]; unfold plantK; simp [hp]
/-- lifting: each kept place (in ks) where int3 stands gets its octet back -/
def liftL (gl gk : Int → Option Int) (ks : List Int) (p : Int) : Option Int := if p ∈ ks ∧ gl p = some 204 then gk p else gl p
theorem lift_hit {gl gk L : Int → Option Int} {pre : List Int} {k v : Int} (hL : ∀ p, L p = liftL gl gk pre p) (hv : L k = some 204) (hk : gk k = some v) :
    ∀ p, (if p = k then some v else L p) = liftL gl gk (pre ++ [k]) p := by
  intro p
  have h1 := hL k
  unfold liftL at h1
  by_cases hp : p = k
  · subst hp
    rw [if_pos rfl]; unfold liftL
    by_cases c : p ∈ pre ∧ gl p = some 204
    · rw [if_pos ⟨by simp, c.2⟩, hk]
    · rw [if_neg c] at h1
      rw [if_pos ⟨by simp, h1 ▸ hv⟩, hk]
  · rw [if_neg hp, hL p]; unfold liftL; simp [hp]
theorem lift_miss {gl gk L : Int → Option Int} {pre : List Int} {k v : Int} (hL : ∀ p, L p = liftL gl gk pre p) (hv : L k = some v) (hn : v ≠ 204) :
    ∀ p, L p = liftL gl gk (pre ++ [k]) p := by
  intro p
  have h1 := hL k
  unfold liftL at h1
  by_cases hp : p = k
  · subst hp
    rw [hL p]; unfold liftL
    by_cases c : p ∈ pre ∧ gl p = some 204
    · rw [if_pos c, if_pos ⟨by simp, c.2⟩]
    · rw [if_neg c] at h1
      have : gl p ≠ some 204 := by rw [← h1, hv]; intro e; exact hn (Option.some.inj e)
      rw [if_neg c, if_neg (fun q => this q.2)]
  · rw [hL p]; unfold liftL; simp [hp]
/-- what is shown at a place: without the points -/
def showG (gl gk : Int → Option Int) (p : Int) : Int := if gl p = some 204 then (gk p).getD 204 else (gl p).getD 0
def shown (gl gk : Int → Option Int) (n : Nat) : List Int := (List.range n).map fun (j : Nat) => showG gl gk (256 + (j : Int))
theorem shown_len (gl gk : Int → Option Int) (n : Nat) : (shown gl gk n).length = n := by simp [shown]
theorem shown_next (gl gk : Int → Option Int) (n : Nat) : shown gl gk (n + 1) = shown gl gk n ++ [showG gl gk (256 + (n : Int))] := by simp [shown, List.range_succ]
section
variable {prog : Program} {w : World} {A : Around} {E : Value → Shared → Prop} {s : Shared} {env : Env} {h₀ : Heap} {x : Str} {body : List Stmt} {Q : Flow → Shared → Prop}
/-- a turn's end: the ledger nx is again one of J's; the iterator's own part stands -/
def TurnEnd (h₀ : Heap) (L : Addr) (J : (Str → Option Value) → List (Addr × Obj) → Prop) (own : List (Addr × Obj)) (I : Addr) (s₁ s₂ : Shared) : Prop :=
  ∃ h' tk m' nx, s₂ = { s₁ with heap := h', toks := tk } ∧ Fr h₀ L h' m' ∧ News h₀ L h' (nx ++ own) ∧ (∀ p ∈ nx, p.1 ≠ I) ∧ J m' nx
def TurnPost (h₀ : Heap) (L : Addr) (J : (Str → Option Value) → List (Addr × Obj) → Prop) (own : List (Addr × Obj)) (I : Addr) (s₁ : Shared) (Q : Flow → Shared → Prop) (f : Flow) (s₂ : Shared) : Prop :=
  match f with
  | .ret v => Q (.ret v) s₂
  | .brk => Q .next s₂
  | _ => TurnEnd h₀ L J own I s₁ s₂
theorem TurnEnd.intro {h₀ h' : Heap} {L I : Addr} {J : (Str → Option Value) → List (Addr × Obj) → Prop} {own all : List (Addr × Obj)} {m' : Str → Option Value} {s₁ : Shared} {tk : Nat} (nx : List (Addr × Obj)) (F : Fr h₀ L h' m') (N : News h₀ L h' all)
    (hs : ∀ p ∈ nx ++ own, p ∈ all) (hI : ∀ p ∈ nx, p.1 ≠ I) (hj : J m' nx) : TurnEnd h₀ L J own I s₁ { s₁ with heap := h', toks := tk } := ⟨h', tk, m', nx, rfl, F, fun p hp => N p (hs p hp), hI, hj⟩
theorem loop_core {I : Addr} {fp tl : List Addr} {n : Nat} {P : Nat → Value → Prop} {St : Nat → Heap → Prop} {ks : List Int} {m₀ : Str → Option Value} {news : List (Addr × Obj)} (adr : List Addr) (J : Nat → (Str → Option Value) → List (Addr × Obj) → Prop)
    (W : Walks prog w A I fp [I] n P St) (hIo : ∀ i h, St i h → ∃ o, h.get? I = some o) (hfp : ∀ b ∈ fp, b = I ∨ b ∈ tl) (hP : ∀ i v, i < n → P i v → ∃ k t, ks[i]? = some k ∧ v = .int k t) (hkn : ks.length = n)
    (hLf : env.locals ∉ fp) (hI0 : h₀.get? I = none) (hnI : ∀ p ∈ news, p.1 ≠ I) (hst : St 0 s.heap) (F : Fr h₀ env.locals s.heap m₀) (N : News h₀ env.locals s.heap news) (hj : J 0 m₀ news)
    (hadr : ∀ i m₁ news₁, J i m₁ news₁ → ∀ a ∈ adr, a ∉ tl ∧ a ∈ news₁.map (·.1))
    (turn : ∀ i k t m₁ news₁ h tk own I oI, ks[i]? = some k → OwnOff own adr → (I, oI) ∈ own → (∀ p ∈ news₁, p.1 ≠ I) → J i m₁ news₁ → Fr h₀ env.locals h (fun y => if y = x then some (.int k t) else m₁ y) → News h₀ env.locals h (news₁ ++ own) →
      wpAny (model prog w) A (execs body env) (TurnPost h₀ env.locals (J (i + 1)) own I { s with heap := h, toks := tk } Q) E { s with heap := h, toks := tk })
    (done : ∀ m₁ news₁ h tk, J ks.length m₁ news₁ → Fr h₀ env.locals h m₁ → News h₀ env.locals h news₁ → Q .next { s with heap := h, toks := tk }) :
    LoopAtV prog w A h₀ env x body Q E (.ref I) s := by
  refine ⟨I, fp, [I], n, P, St, m₀, news, J, rfl, W, hLf, (fun b hb => by rw [List.mem_singleton.mp hb]; exact hI0), (fun p hp hI => hnI p hp (List.mem_singleton.mp hI)), hst, F, N, hj, ?_, ?_⟩
  · rintro i v m₁ news₁ s₁ own ⟨hh', tk', rfl⟩ hin hPv hJ hoff hown _ hmem hst₁ F₁ N₁
    obtain ⟨k, t, hk, rfl⟩ := hP i v hin hPv
    obtain ⟨oI, heI⟩ := hIo _ _ hst₁
    have hIf : I ∈ fp := W.sub I (.head _)
    have N₂ : News h₀ env.locals hh' (news₁ ++ own) := fun p hp => N₁ p ((List.mem_append.mp hp).elim (fun h => List.mem_append.mpr (.inr h)) fun h => List.mem_append.mpr (.inl h))
    have offI : ∀ p ∈ news₁, p.1 ≠ I := fun p hp e => hoff p hp (e ▸ .head _)
    have hsep : OwnOff own adr := by
      intro p hp b hb e
      obtain ⟨h1, h2⟩ := hadr i m₁ news₁ hJ b hb
      rcases hfp _ (hown p hp) with h3 | h3
      · obtain ⟨q, hq, e2⟩ := List.mem_map.mp h2
        exact offI q hq (e2.trans (e.symm.trans h3))
      · exact h1 (e ▸ h3)
    refine wpAny_mono (turn i k t m₁ news₁ hh' tk' own I oI hk hsep (hmem I hIf hI0 oI heI) offI hJ F₁ N₂) (fun f s₂ p => ?_) fun _ _ e => e
    have fin : TurnEnd h₀ env.locals (J (i + 1)) own I { s with heap := hh', toks := tk' } s₂ → LoopStepU h₀ env.locals [I] own (J (i + 1)) { s with heap := hh', toks := tk' } .next s₂ := by
      rintro ⟨h', tk, m', nx, e, F', N', hn, hm⟩
      exact ⟨rfl, h', tk, m', nx, e, F', fun p hp => N' p ((List.mem_append.mp hp).elim (fun h => List.mem_append.mpr (.inr h)) fun h => List.mem_append.mpr (.inl h)), fun p hp hq => hn p hp (List.mem_singleton.mp hq), hm⟩
    cases f with
    | ret v => exact .ret p
    | brk => exact .brk p
    | next => exact .next (fin p)
    | cont => exact .cont (fin p)
  · rintro h' tk m' news' F' N' _ hJ
    exact done m' news' h' tk (hkn ▸ hJ) F' N'

theorem iter_led {l : Addr} {vs : List Value} {ns : List Int} {ep : Nat} {m₀ : Str → Option Value} {news news0 : List (Addr × Obj)} (adr : List Addr) (J : Nat → (Str → Option Value) → List (Addr × Obj) → Prop)
    (hh : A.handled = none) (N0 : News h₀ env.locals s.heap news0) (hm : (l, listOf (List.toArray vs) ep) ∈ news0) (hi : IntsAre vs ns) (F : Fr h₀ env.locals s.heap m₀) (N : News h₀ env.locals s.heap news) (hj : J 0 m₀ news)
    (hadr : ∀ i m₁ news₁, J i m₁ news₁ → ∀ a ∈ adr, a ≠ l ∧ a ∈ news₁.map (·.1))
    (turn : ∀ i k t m₁ news₁ h tk own I oI, ns[i]? = some k → OwnOff own adr → (I, oI) ∈ own → (∀ p ∈ news₁, p.1 ≠ I) → J i m₁ news₁ → Fr h₀ env.locals h (fun y => if y = x then some (.int k t) else m₁ y) → News h₀ env.locals h (news₁ ++ own) →
      wpAny (model prog w) A (execs body env) (TurnPost h₀ env.locals (J (i + 1)) own I { s with heap := h, toks := tk } Q) E { s with heap := h, toks := tk })
    (done : ∀ m₁ news₁ h tk, J ns.length m₁ news₁ → Fr h₀ env.locals h m₁ → News h₀ env.locals h news₁ → Q .next { s with heap := h, toks := tk }) :
    wpAny (model prog w) A (pyIter (.ref l)) (fun it s₂ => LoopAtV prog w A h₀ env x body Q E it s₂) E s := by
  have hls : s.heap.IsList l (List.toArray vs) := N0.isList hm
  obtain ⟨ol, hol, _⟩ := id hls
  have hlt : l < s.heap.objs.size := Heap.lt_size hol
  refine wpAny_pyIter_list hls ?_
  have W := Walks.list (prog := prog) (w := w) hh s.heap.objs.size l (Nat.ne_of_lt hlt) (List.toArray vs)
  refine loop_core (tl := [l]) adr J W (fun i h st => by obtain ⟨o, e, _⟩ := st.1; exact ⟨o, e⟩) (fun b hb => by
      rcases List.mem_cons.mp hb with h | h
      · exact .inl h
      · exact .inr h) ?_ (by rw [List.size_toArray]; exact hi.length.symm) ?_ (next_is_new F) (fun p hp hI => absurd (Heap.lt_size (N p hp).1) (hI ▸ Nat.lt_irrefl _))
    ⟨⟨_, Heap.get?_push_size _ rfl, rfl, rfl⟩, (hls.at fun o e => Heap.get?_push_of_some _ e)⟩ (F.push _) (fun p hp => ⟨Heap.get?_push_of_some _ (N p hp).1, (N p hp).2⟩) hj
    (fun i m₁ news₁ h a ha => ⟨fun h2 => (hadr i m₁ news₁ h a ha).1 (List.mem_singleton.mp h2), (hadr i m₁ news₁ h a ha).2⟩) (fun i k t m₁ news₁ h tk own I oI => turn i k t m₁ news₁ h tk own I oI) (fun m₁ news₁ h tk => done m₁ news₁ h tk)
  · intro i v _ hv
    obtain ⟨k, t, e, hk⟩ := IntsAre.at hi i v (by simpa using hv)
    exact ⟨k, t, hk, e⟩
  · intro hm2
    rcases List.mem_cons.mp hm2 with e | hm2
    · exact absurd F.ns.lt (e ▸ Nat.lt_irrefl _)
    · exact (N0 _ hm).2.1 (List.mem_singleton.mp hm2).symm

theorem iter_rng {r : Addr} {a₀ b₀ : Int} {t₀ u₀ v₀ : Tok} {n : Nat} {m₀ : Str → Option Value} {news : List (Addr × Obj)} (adr : List Addr) (J : Nat → (Str → Option Value) → List (Addr × Obj) → Prop)
    (hh : A.handled = none) (hr : IsRange s.heap r a₀ b₀ 1 t₀ u₀ v₀) (hsmall : Builtin.Range.small a₀ b₀ 1 = true) (hn : Builtin.Range.rangeSize a₀ b₀ 1 = (n : Int)) (F : Fr h₀ env.locals s.heap m₀) (N : News h₀ env.locals s.heap news) (hj : J 0 m₀ news)
    (hadr : ∀ i m₁ news₁, J i m₁ news₁ → ∀ a ∈ adr, a ∈ news₁.map (·.1))
    (turn : ∀ i k t m₁ news₁ h tk own I oI, (rangeKs a₀ n)[i]? = some k → OwnOff own adr → (I, oI) ∈ own → (∀ p ∈ news₁, p.1 ≠ I) → J i m₁ news₁ → Fr h₀ env.locals h (fun y => if y = x then some (.int k t) else m₁ y) → News h₀ env.locals h (news₁ ++ own) →
      wpAny (model prog w) A (execs body env) (TurnPost h₀ env.locals (J (i + 1)) own I { s with heap := h, toks := tk } Q) E { s with heap := h, toks := tk })
    (done : ∀ m₁ news₁ h tk, J n m₁ news₁ → Fr h₀ env.locals h m₁ → News h₀ env.locals h news₁ → Q .next { s with heap := h, toks := tk }) :
    wpAny (model prog w) A (pyIter (.ref r)) (fun it s₂ => LoopAtV prog w A h₀ env x body Q E it s₂) E s := by
  refine wpAny_pyIter_range hr hsmall ?_
  have W : Walks prog w A s.heap.objs.size [s.heap.objs.size] [s.heap.objs.size] n (fun i v => i < n ∧ ∃ t, v = .int (a₀ + i * 1) t)
      (fun i h => IsRangeIter h s.heap.objs.size (a₀ + (i : Nat) * 1) ((n : Int) - (i : Nat)) 1) := (Walks.range hh _ a₀ 1 n).bound
  refine loop_core (tl := []) (ks := rangeKs a₀ n) adr J W (fun i h st => ⟨_, st⟩) (fun b hb => .inl (List.mem_singleton.mp hb)) ?_ (rangeKs_length _ _) (fun hm => absurd F.ns.lt ((List.mem_singleton.mp hm) ▸ Nat.lt_irrefl _)) (next_is_new F)
    (fun p hp hI => absurd (Heap.lt_size (N p hp).1) (hI ▸ Nat.lt_irrefl _)) (by show IsRangeIter _ _ _ _ _; rw [hn]; simpa using Heap.get?_push_size _ rfl) (F.push _) (fun p hp => ⟨Heap.get?_push_of_some _ (N p hp).1, (N p hp).2⟩) hj
    (fun i m₁ news₁ h a ha => ⟨(fun h2 => nomatch h2), hadr i m₁ news₁ h a ha⟩) (fun i k t m₁ news₁ h tk own I oI => turn i k t m₁ news₁ h tk own I oI) (fun m₁ news₁ h tk hJ => done m₁ news₁ h tk (by rw [rangeKs_length] at hJ; exact hJ))
  · rintro i v hi ⟨_, t, rfl⟩
    refine ⟨a₀ + (i : Int), t, ?_, by simp⟩
    simp [rangeKs, hi]
/-- the map between the turns: the loop's name x and one more stored name y stand as they may -/
theorem map_two {m' m₀ : Str → Option Value} {x y : Str} (h : ∀ z, z ≠ x → z ≠ y → m' z = m₀ z) : m' = fun z => if z = x then m' z else if z = y then m' z else m₀ z := by
  funext z
  by_cases h1 : z = x
  · simp [h1]
  · by_cases h2 : z = y
    · simp [h2]
    · simp only [if_neg h1, if_neg h2]; exact h z h1 h2
theorem map_two' {m' m₀ : Str → Option Value} {x y : Str} {v : Value} (h : ∀ z, z ≠ x → z ≠ y → m' z = m₀ z) : (fun z => if z = x then some v else m' z) = fun z => if z = x then some v else if z = y then m' z else m₀ z := by
  funext z
  by_cases h1 : z = x
  · simp [h1]
  · by_cases h2 : z = y
    · simp [h2]
    · simp only [if_neg h1, if_neg h2]; exact h z h1 h2
def Turn2 (h₀ : Heap) (L : Addr) (m₀ : Str → Option Value) (x y : Str) (R : List (Addr × Obj) → Prop) (own : List (Addr × Obj)) (I : Addr) (s₁ : Shared) (Q : Flow → Shared → Prop) (f : Flow) (s₂ : Shared) : Prop :=
  match f with
  | .ret v => Q (.ret v) s₂
  | .brk => Q .next s₂
  | _ => TurnEnd h₀ L (fun m' nx => (∀ z, z ≠ x → z ≠ y → m' z = m₀ z) ∧ R nx) own I s₁ s₂
theorem iter_led2 {l : Addr} {vs : List Value} {ns : List Int} {ep : Nat} {m₀ : Str → Option Value} {news news0 : List (Addr × Obj)} (y : Str) (adr : List Addr) (R : Nat → List (Addr × Obj) → Prop)
    (hh : A.handled = none) (N0 : News h₀ env.locals s.heap news0) (hm : (l, listOf (List.toArray vs) ep) ∈ news0) (hi : IntsAre vs ns) (F : Fr h₀ env.locals s.heap m₀) (N : News h₀ env.locals s.heap news) (hj : R 0 news)
    (hadr : ∀ i news₁, R i news₁ → ∀ a ∈ adr, a ≠ l ∧ a ∈ news₁.map (·.1))
    (turn : ∀ i k t (u : Str → Option Value) news₁ h tk own I oI, ns[i]? = some k → OwnOff own adr → (I, oI) ∈ own → (∀ p ∈ news₁, p.1 ≠ I) → R i news₁ → Fr h₀ env.locals h (fun z => if z = x then some (.int k t) else if z = y then u z else m₀ z) → News h₀ env.locals h (news₁ ++ own) →
      wpAny (model prog w) A (execs body env) (Turn2 h₀ env.locals m₀ x y (R (i + 1)) own I { s with heap := h, toks := tk } Q) E { s with heap := h, toks := tk })
    (done : ∀ (u : Str → Option Value) news₁ h tk, R ns.length news₁ → Fr h₀ env.locals h (fun z => if z = x then u z else if z = y then u z else m₀ z) → News h₀ env.locals h news₁ → Q .next { s with heap := h, toks := tk }) :
    wpAny (model prog w) A (pyIter (.ref l)) (fun it s₂ => LoopAtV prog w A h₀ env x body Q E it s₂) E s := by
  refine iter_led adr (fun i m nx => (∀ z, z ≠ x → z ≠ y → m z = m₀ z) ∧ R i nx) hh N0 hm hi F N ⟨fun _ _ _ => rfl, hj⟩ (fun i m₁ news₁ h => hadr i news₁ h.2) ?_ ?_
  · rintro i k t m₁ news₁ h tk own I oI hk ho hI hoff ⟨hm1, hR⟩ F₁ N₁
    rw [map_two' hm1] at F₁
    refine wpAny_mono (turn i k t m₁ news₁ h tk own I oI hk ho hI hoff hR F₁ N₁) (fun f s₂ p => ?_) fun _ _ e => e
    cases f <;> exact p
  · rintro m₁ news₁ h tk ⟨hm1, hR⟩ F₁ N₁
    rw [map_two hm1] at F₁
    exact done m₁ news₁ h tk hR F₁ N₁
theorem iter_rng2 {r : Addr} {a₀ b₀ : Int} {t₀ u₀ v₀ : Tok} {n : Nat} {m₀ : Str → Option Value} {news : List (Addr × Obj)} (y : Str) (adr : List Addr) (R : Nat → List (Addr × Obj) → Prop)
    (hh : A.handled = none) (hr : IsRange s.heap r a₀ b₀ 1 t₀ u₀ v₀) (hsmall : Builtin.Range.small a₀ b₀ 1 = true) (hn : Builtin.Range.rangeSize a₀ b₀ 1 = (n : Int)) (F : Fr h₀ env.locals s.heap m₀) (N : News h₀ env.locals s.heap news) (hj : R 0 news)
    (hadr : ∀ i news₁, R i news₁ → ∀ a ∈ adr, a ∈ news₁.map (·.1))
    (turn : ∀ i k t (u : Str → Option Value) news₁ h tk own I oI, i < n → k = a₀ + (i : Int) → OwnOff own adr → (I, oI) ∈ own → (∀ p ∈ news₁, p.1 ≠ I) → R i news₁ → Fr h₀ env.locals h (fun z => if z = x then some (.int k t) else if z = y then u z else m₀ z) → News h₀ env.locals h (news₁ ++ own) →
      wpAny (model prog w) A (execs body env) (Turn2 h₀ env.locals m₀ x y (R (i + 1)) own I { s with heap := h, toks := tk } Q) E { s with heap := h, toks := tk })
    (done : ∀ (u : Str → Option Value) news₁ h tk, R n news₁ → Fr h₀ env.locals h (fun z => if z = x then u z else if z = y then u z else m₀ z) → News h₀ env.locals h news₁ → Q .next { s with heap := h, toks := tk }) :
    wpAny (model prog w) A (pyIter (.ref r)) (fun it s₂ => LoopAtV prog w A h₀ env x body Q E it s₂) E s := by
  refine iter_rng adr (fun i m nx => (∀ z, z ≠ x → z ≠ y → m z = m₀ z) ∧ R i nx) hh hr hsmall hn F N ⟨fun _ _ _ => rfl, hj⟩ (fun i m₁ news₁ h => hadr i news₁ h.2) ?_ ?_
  · rintro i k t m₁ news₁ h tk own I oI hk ho hI hoff ⟨hm1, hR⟩ F₁ N₁
    rw [map_two' hm1] at F₁
    have hin : i < n ∧ k = a₀ + (i : Int) := by
      unfold rangeKs at hk
      rw [List.getElem?_map] at hk
      by_cases h2 : i < n
      · rw [List.getElem?_range h2] at hk
        exact ⟨h2, (Option.some.inj hk).symm⟩
      · rw [List.getElem?_eq_none (by simp; omega)] at hk; cases hk
    refine wpAny_mono (turn i k t m₁ news₁ h tk own I oI hin.1 hin.2 ho hI hoff hR F₁ N₁) (fun f s₂ p => ?_) fun _ _ e => e
    cases f <;> exact p
  · rintro m₁ news₁ h tk ⟨hm1, hR⟩ F₁ N₁
    rw [map_two hm1] at F₁
    exact done m₁ news₁ h tk hR F₁ N₁
theorem same_adr {a b : List (Addr × Obj)} {I : Addr} (e : a.map (·.1) = b.map (·.1)) (h : ∀ p ∈ b, p.1 ≠ I) : ∀ p ∈ a, p.1 ≠ I := fun p hp q => by
  have : p.1 ∈ b.map (·.1) := e ▸ List.mem_map_of_mem hp
  obtain ⟨r, hr, e2⟩ := List.mem_map.mp this
  exact h r hr (e2.trans q)
theorem take_next {ps : List Int} {i : Nat} {k : Int} (h : ps[i]? = some k) : ps.take (i + 1) = ps.take i ++ [k] := by rw [List.take_add_one, h]; rfl
/-- a goal that the walk does not know: it stops there -/
def Halt (P : Prop) : Prop := P
theorem Halt.mk {P : Prop} (h : Halt P) : P := h
theorem Halt.out {P : Prop} (h : P) : Halt P := h
end

/-! a filter: [x for x in xs if test] over a list of the ledger -/
def TestEnd (h₀ : Heap) (L : Addr) (m : Str → Option Value) (all : List (Addr × Obj)) (s : Shared) (pk b : Bool) (s' : Shared) : Prop := b = pk ∧ ∃ h' tk', s' = { s with heap := h', toks := tk' } ∧ Fr h₀ L h' m ∧ News h₀ L h' all
section
variable {prog : Program} {w : World} {A : Around} {h₀ : Heap} {L : Addr} {m : Str → Option Value} {env : Env} {ct : Expr} {x : Str} {px : Pos} {scope : Scope} {cl : List (Str × Addr)} {s : Shared} {news : List (Addr × Obj)}
theorem foldl_filter (P : Int → Bool) (ns : List Int) : ∀ l : List Int, ns.foldl (fun l k => if P k then l ++ [k] else l) l = l ++ ns.filter P := by
  induction ns with
  | nil => intro l; simp
  | cons n r ih =>
    intro l
    rw [List.foldl_cons, ih]
    cases h : P n <;> simp [h]
def FilterBy (_ : Int → Bool) : Prop := True
theorem filter_src {ax : Addr} {vs : List Value} {ns : List Int} {ep : Nat} {Fin : Shared → List Value → List (Addr × Obj) → Prop} {P : Int → Bool} (_ : FilterBy P)
    (hh : A.handled = none) (F : Fr h₀ L s.heap m) (N : News h₀ L s.heap news) (hm : (ax, listOf (List.toArray vs) ep) ∈ news) (hi : IntsAre vs ns) (hsz : (List.toArray vs).size ≤ sizeLine)
    (test : ∀ k t I oI C oC D m₂ ys h tk (E' : Value → Shared → Prop), k ∈ ns → LCg.NsObj oC m₂ → m₂ x = some (.int k t) → Fr h₀ L h m → News h₀ L h ((I, oI) :: (C, oC) :: (D, LCg.lst ys) :: news) → LCg.Off3 I C D news → ((@Ne Nat I C) ∧ (@Ne Nat I D) ∧ (@Ne Nat C D)) →
      wpAny (model prog w) A (isTrue ct (compEnvC scope cl C env) (eval ct (compEnvC scope cl C env))) (fun b s' => TestEnd h₀ L m ((I, oI) :: (C, oC) :: (D, LCg.lst ys) :: news) { s with heap := h, toks := tk } (P k) b s') E' { s with heap := h, toks := tk })
    (fin : ∀ g ys, IntsAre ys (ns.filter P) → Fin { s with heap := g } ys news)
    (hk : (compEnvC scope cl 0 env).scope.kind = .function := by rfl) (hl : (compEnvC scope cl 0 env).kindOf x = some .local := by rfl) (hd : (x == ("__debug__" : Str)) = false := by decide) :
    LCt.CompSrcT prog w A h₀ L m env ct (.Name x px) x scope cl Fin (.ref ax) s := by
  refine LCt.CompSrcT.ledger hh F N hm hsz fun g => ?_
  refine kci_list (fun l k => if P k then l ++ [k] else l) hi ?_ ?_ ?_
  · intro k t I oI C oC D m₂ ys l h tk E' hk9 _ hC hx F' N' off ne _
    refine wpAny_mono (test k t I oI C oC D m₂ ys h tk E' hk9 hC hx F' N' off ne) (fun b s' hq => ?_) fun _ _ e => e
    obtain ⟨rfl, h', tk', rfl, F₂, N₂⟩ := hq
    have S₂ : LCg.SrcAt h₀ ax (List.toArray vs) news := .inr ⟨_, hm, rfl, _, rfl⟩
    cases hP : P k with
    | true =>
      simp only [if_true]
      refine LCgL.ld_own N₂ (.tail _ (.head _)) hC hx ?_ hk hl hd
      exact ⟨h', tk', news, rfl, F₂, N₂, off, S₂, rfl, k, t, rfl, by simp⟩
    | false =>
      simp only [Bool.false_eq_true, if_false]
      exact ⟨h', tk', news, rfl, F₂, N₂, off, S₂, rfl, by simp⟩
  · intro ys hy _
    rw [foldl_filter, List.nil_append] at hy
    exact fin g ys hy
  · intro l k
    dsimp only
    split
    · rw [List.length_append]; simp
    · omega
end
section
variable {w : World} {A : Around} {E : Value → Shared → Prop} {s : Shared} {h₀ : Heap} {L d : Addr} {m : Str → Option Value} {news : List (Addr × Obj)} {g : Obj → List (Addr × Obj)} {o : Obj} {l : List (Int × Int)} {k v : Int} {t t2 : Tok}
theorem tab_DI {h : Heap} (N : News h₀ L h news) (hm : (d, o) ∈ news) (lo : (d == sysModules) = false) (hD : DI w o l) : TabAt (intKind PySem.Challenge.rw_qd0109_01.row.prog w) PyData.int h d (intPairs l) :=
  let ⟨_, a, b⟩ := hD; TabAt.ofNews N hm lo a b
theorem isSome_pairs (l : List (Int × Int)) (k : Int) : (PySem.Spec.lookup (.int k) (intPairs l)).isSome = (getI l k).isSome := by rw [lookup_pairs, Option.isSome_map]
theorem notin_DI {Q : Value → Shared → Prop} (N : News h₀ L s.heap news) (hm : (d, o) ∈ news) (lo : (d == sysModules) = false) (hD : DI w o l) (h : Q (.bool (!(getI l k).isSome)) { s with toks := s.toks + 1 }) :
    wpAny (model PySem.Challenge.rw_qd0109_01.row.prog w) A (compareOp .NotIn (.int k t) (.ref d)) Q E s := notin_intTab (tab_DI N hm lo hD) (by rw [isSome_pairs]; exact h)
theorem get2_DI {Q : Value → Shared → Prop} (N : News h₀ L s.heap news) (hm : (d, o) ∈ news) (lo : (d == sysModules) = false) (hD : DI w o l) (h : ∀ t', Q (.int ((getI l k).getD v) t') { s with toks := s.toks + 1 }) :
    wpAny (model PySem.Challenge.rw_qd0109_01.row.prog w) A (call (.builtin "dict.get") [.ref d, .int k t, .int v t2]) Q E s :=
  call_get2_intTab (tab_DI N hm lo hD) (PyProof.V.Flat.int v t2) fun x hx => by
    have e : (PySem.Spec.lookup (.int k) (intPairs l)).getD (.int v) = .int ((getI l k).getD v) := by rw [lookup_pairs]; cases getI l k <;> rfl
    rw [e] at hx
    obtain ⟨t', rfl⟩ := hx.int_inv
    exact h t'
theorem item_DI {value slice : PySem.Expr} {Q : Value → Shared → Prop} (N : News h₀ L s.heap news) (hm : (d, o) ∈ news) (lo : (d == sysModules) = false) (hD : DI w o l) (hv : getI l k = some v) (h : ∀ t', Q (.int v t') { s with toks := s.toks + 1 })
    (hs : subscripted slice false (.ref d) (.int k t) = operate [.ref d, .int k t] (getItem (.ref d) (.int k t)) := by with_unfolding_all rfl) (hg : ∀ r, letTemporaryGo value (.ref d) r = pure () := by intro _; with_unfolding_all rfl) :
    wpAny (model PySem.Challenge.rw_qd0109_01.row.prog w) A (subscriptTail value slice (.ref d) (.int k t)) Q E s :=
  item_intTab (tab_DI N hm lo hD) (dv := .int v) (by rw [lookup_pairs, hv]; rfl) (fun x hx => by obtain ⟨t', rfl⟩ := hx.int_inv; exact h t') hs hg
theorem set_DI {Q : Unit → Shared → Prop} (F : Fr h₀ L s.heap m) (N : News h₀ L s.heap news) (U : UpdF d o news g) (hD : DI w o l) (hz : l.length ≤ 1000)
    (h : ∀ h' o', Fr h₀ L h' m → News h₀ L h' (g o') → DI w o' (putI l k v) → Q () { s with heap := h', toks := s.toks + 1 }) :
    wpAny (model PySem.Challenge.rw_qd0109_01.row.prog w) A (setItem (.ref d) (.int k t) (.int v t2)) Q E s := by
  obtain ⟨kvs, a, b⟩ := hD
  refine setItem_K PyProof.V.same_int (intKind_is _ _ _ _) (PyProof.V.Flat.int v t2) F N U a b (fun h' o' F' N' a' b' => h h' o' F' N' ⟨_, a', by rw [← put_pairs]; exact b'⟩) ?_
  rw [sizeLine_eq]; unfold intPairs; rw [List.length_map]; omega
theorem putI_same {l : List (Int × Int)} {k v x : Int} (h : getI l k = some v) : (putI l k x).length = l.length := by
  have : (l.any fun p => decide (p.1 = k)) = true := by
    induction l with
    | nil => cases h
    | cons p r ih =>
      rw [List.any_cons]
      by_cases hp : p.1 = k
      · simp [hp]
      · rw [getI, if_neg hp] at h; rw [ih h]; simp
  unfold putI
  rw [if_pos this, List.length_map]
end
/-- a store into the memory, at a call -/
theorem use_set_octet {w : World} {Mi Md H : Addr} {tk t t2 : Tok} {hh : Int} {oH : Obj} {l : List (Int × Int)} {p v : Int}
    {mean : ExcName → Option Value} {mg mb : Str → Option Value} {dp un : Nat} {gd : Option (List Code)} {cn : Str} {cs : Scope} {a : Addr} {ccd : Value} {cl : List (Str × Addr)} {outer : List Env} {A₀ : Around} {base h₀ : Heap} {L : Addr}
    {m : Str → Option Value} {news : List (Addr × Obj)} {g : Obj → List (Addr × Obj)} {s : Shared} {Q E : Value → Shared → Prop}
    (B : Below A₀ base outer h₀) (F : Fr h₀ L s.heap m) (X : (hd.heap_39 w.params).In h₀) (N : News h₀ L s.heap news) (T : Top hd.view_39 (looseW hd.view_39 []) mean mg mb h₀) (hk : cs.kind = .function)
    (m1 : (Mi, instObj 179 Md) ∈ news) (m2 : (Md, dictOf [⟨hh, .str "held" tk, .ref H⟩] 1) ∈ news) (U : UpdF H oH news g) (hD : DI w oH l) {rk : Nat → Nat} (r3 : Rk rk Mi 3) (r4 : Rk rk Md 4) (r5 : Rk rk H 5)
    (h0 : 0 ≤ p) (h1 : p < 2 ^ 64) (hlen : l.length ≤ 1000) (hd : dp + 4 < recursionLimit) (hu : un + 40 < cLine)
    (ret : ∀ o' h' tk', Fr h₀ L h' m → News h₀ L h' (g o') → DI w o' (putI l p v) → Q .none { s with heap := h', toks := tk' }) :
    wpAny (model PySem.Challenge.rw_qd0109_01.row.prog w) (ktrTop dp un gd cn cs L a ccd cl outer) (call (.ref 117) [.ref Mi, .int p t, .int v t2]) Q E s := by
  have m3 : (H, oH) ∈ news := by obtain ⟨pr, po, e, _⟩ := U.split; rw [e]; simp
  refine does_use1 (does_set_octet w Mi Md H tk hh oH l p v t t2 r3 r4 r5 hD h0 h1 hlen) (d := H) (o := oH) (k := fun o' => [(Mi, instObj 179 Md), (Md, dictOf [⟨hh, .str "held" tk, .ref H⟩] 1), (H, o')]) (R := fun r o' => r = .none ∧ DI w o' (putI l p v))
    (fun o' => by simp) (fun o' q hq => ?_) B F X N T hk (fun q hq => ?_) hd hu U fun r o' h' tk' hr F' N' => ?_
  · simp only [List.mem_cons, List.not_mem_nil, or_false] at hq
    rcases hq with rfl | rfl | rfl
    · exact .inr (by simp)
    · exact .inr (by simp)
    · exact .inl rfl
  · simp only [List.mem_cons, List.not_mem_nil, or_false] at hq
    rcases hq with rfl | rfl | rfl
    · exact m1
    · exact m2
    · exact m3
  · obtain ⟨rfl, hD'⟩ := hr
    exact ret o' h' tk' F' N' hD'
section
variable {w : World} {A : Around} {E : Value → Shared → Prop} {s : Shared} {h₀ : Heap} {L d : Addr} {m : Str → Option Value} {news : List (Addr × Obj)} {o : Obj} {l : List (Int × Int)}
theorem list_DI {Q : Value → Shared → Prop} (hh : A.handled = none) (F : Fr h₀ L s.heap m) (N : News h₀ L s.heap news) (hm : (d, o) ∈ news) (lo : (d == sysModules) = false) (hD : DI w o l) (hz : l.length ≤ 1000)
    (h : ∀ (B : Addr) (n : Nat) h' tk vs, Fr h₀ L h' m → News h₀ L h' ((B, listOf (List.toArray vs) n) :: news) → (∀ q ∈ news, q.1 < B) → IntsAre vs (l.map (·.1)) → Q (.ref B) { s with heap := h', toks := tk }) :
    wpAny (model PySem.Challenge.rw_qd0109_01.row.prog w) A (call (.type "list") [.ref d]) Q E s :=
  kdy_list (c := l) hh F N (tab_DI N hm lo hD) (by omega) h
theorem sorted_L {prog : Program} {vs : List Value} {ns : List Int} {c : Nat} {Q : Value → Shared → Prop} (F : Fr h₀ L s.heap m) (N : News h₀ L s.heap news) (hm : (d, listOf (List.toArray vs) c) ∈ news) (hi : IntsAre vs ns) (h64 : ns.length < 64)
    (h : ∀ D vs' ns' c h', Fr h₀ L h' m → News h₀ L h' ((D, listOf (List.toArray vs') c) :: news) → (∀ q ∈ news, q.1 < D) → IntsAre vs' ns' → ns'.length = ns.length → (∀ x, x ∈ ns' ↔ x ∈ ns) → Q (.ref D) { s with heap := h' }) :
    wpAny (model prog w) A (call (.builtin "sorted") [.ref d]) Q E s :=
  kso_sorted F N (N.isList hm) hi h64 fun D vs' ns' c' h' F' N' l1 i' e' p' _ _ => h D vs' ns' c' h' F' N' l1 i' e' fun x => p'.mem_iff
theorem flat_keys {kvs : List (Int × Value)} {D : List (PyData × PyData)} (h : PyProof.V.FlatPairs PyData.int kvs D) : ∀ {l : List (Int × Int)}, D = intPairs l → kvs.map (·.1) = l.map (·.1) := by
  induction h with
  | nil => intro l e; cases l with
    | nil => rfl
    | cons p r => cases e
  | cons _ _ ih => intro l e; cases l with
    | nil => cases e
    | cons p r =>
      unfold intPairs at e
      rw [List.map_cons] at e
      injection e with e1 e2
      injection e1 with e3 e4
      injection e3 with e5
      rw [List.map_cons, List.map_cons, ih e2, e5]
theorem nodup_DI (hD : DI w o l) : (l.map (·.1)).Nodup := by
  obtain ⟨kvs, ⟨_, _, _, _, _, _, hn⟩, hf⟩ := hD
  rw [← flat_keys hf rfl]; exact hn
end
theorem few_of {S : List Int} : ∀ {l : List Int}, l.Nodup → (∀ x ∈ l, x ∈ S) → l.length ≤ S.length := by
  intro l
  induction l generalizing S with
  | nil => intro _ _; exact Nat.zero_le _
  | cons a r ih =>
    intro hn hs
    obtain ⟨h1, h2⟩ := List.nodup_cons.mp hn
    have ha := hs a (.head _)
    have := ih (S := S.erase a) h2 fun x hx => by
      have hne : x ≠ a := fun e => h1 (e ▸ hx)
      exact (List.mem_erase_of_ne hne).mpr (hs x (.tail _ hx))
    rw [List.length_erase_of_mem ha] at this
    have : 0 < S.length := List.length_pos_of_mem ha
    rw [List.length_cons]; omega
theorem getI_mem {l : List (Int × Int)} {k : Int} : (getI l k).isSome = true ↔ k ∈ l.map (·.1) := by
  induction l with
  | nil => simp [getI]
  | cons p r ih =>
    rw [getI, List.map_cons, List.mem_cons]
    by_cases h : p.1 = k
    · simp [h]
    · rw [if_neg h, ih]; simp [Ne.symm h]
theorem few_DI {w : World} {o : Obj} {l : List (Int × Int)} (hD : DI w o l) (h : ∀ p, (getI l p).isSome = true → 256 ≤ p ∧ p < 264) : l.length ≤ 8 := by
  have := few_of (S := [256, 257, 258, 259, 260, 261, 262, 263]) (nodup_DI hD) fun x hx => by
    have := h x (getI_mem.mpr hx)
    simp only [List.mem_cons, List.not_mem_nil, or_false]; omega
  rw [List.length_map] at this
  exact this
theorem off_lt {d : Addr} {a : List (Addr × Obj)} (h : AllLt d a) : OwnOff a [d] := fun p hp b hb => by
  rw [List.mem_singleton.mp hb]
  exact off1_mem (off1_lt h) p hp
theorem allLt_mem {d : Addr} : ∀ {a : List (Addr × Obj)}, AllLt d a → ∀ p ∈ a, @LT.lt Nat _ p.1 d
  | [], _, _, h => nomatch h
  | _ :: _, x, p, h => by
    rcases List.mem_cons.mp h with rfl | h
    · exact x.1
    · exact allLt_mem x.2 p h
theorem off_lt3 {d : Addr} {a : List (Addr × Obj)} (h : AllLt d a) : OwnOff a [d + 1, d + 2, d + 3] := fun p hp b hb e => by
  have h1 := allLt_mem h p hp
  simp only [List.mem_cons, List.not_mem_nil, or_false] at hb
  rw [e] at h1
  rcases hb with rfl | rfl | rfl <;> exact absurd h1 (by refine Nat.not_lt.mpr ?_; simp)
theorem off_join {a : List (Addr × Obj)} {l l' : List Addr} (h1 : OwnOff a l) (h2 : OwnOff a l') : OwnOff a (l ++ l') := fun p hp b hb => (List.mem_append.mp hb).elim (h1 p hp b) (h2 p hp b)
theorem off_app {a b : List (Addr × Obj)} {l : List Addr} (h1 : OwnOff a l) (h2 : OwnOff b l) : OwnOff (a ++ b) l := fun p hp => (List.mem_append.mp hp).elim (h1 p) (h2 p)
theorem off_sub {a : List (Addr × Obj)} {l l' : List Addr} (h1 : OwnOff a l) (h2 : ∀ x ∈ l', x ∈ l) : OwnOff a l' := fun p hp b hb => h1 p hp b (h2 b hb)
/-- a block's element over a range -/
def ElEnd (h₀ : Heap) (L : Addr) (m : Str → Option Value) (all : List (Addr × Obj)) (s : Shared) (fk : Int) (y : Value) (s' : Shared) : Prop := ∃ t h' tk', y = .int fk t ∧ s' = { s with heap := h', toks := tk' } ∧ Fr h₀ L h' m ∧ News h₀ L h' all
theorem ElEnd.intro {h₀ h' : Heap} {L : Addr} {m : Str → Option Value} {all : List (Addr × Obj)} {s : Shared} {fk v : Int} {t : Tok} {tk' : Nat} (e : v = fk) (F : Fr h₀ L h' m) (N : News h₀ L h' all) : ElEnd h₀ L m all s fk (.int v t) { s with heap := h', toks := tk' } := by
  subst e; exact ⟨t, h', tk', rfl, rfl, F, N⟩
def MapBy (_ : Int → Int) : Prop := True
section
variable {prog : Program} {w : World} {A : Around} {h₀ : Heap} {L : Addr} {m : Str → Option Value} {env : Env} {elt : PySem.Expr} {x : Str} {scope : Scope} {cl : List (Str × Addr)} {s : Shared} {news : List (Addr × Obj)}
theorem map_rng {r : Addr} {a b : Int} {t u v : Tok} {n : Nat} {f : Int → Int} {Fin : Shared → List Value → List (Addr × Obj) → Prop} (_ : MapBy f)
    (hh : A.handled = none) (F : Fr h₀ L s.heap m) (N : News h₀ L s.heap news) (hr : IsRange s.heap r a b 1 t u v) (hsm : Builtin.Range.small a b 1 = true) (hn : Builtin.Range.rangeSize a b 1 = ((n : Nat) : Int)) (hsz : n ≤ sizeLine)
    (turn : ∀ k t I oI C oC D m₂ ys h tk (E' : Value → Shared → Prop), a ≤ k → k < a + (n : Int) → LCg.NsObj oC m₂ → m₂ x = some (.int k t) → Fr h₀ L h m → News h₀ L h ((I, oI) :: (C, oC) :: (D, LCg.lst ys) :: news) → LCg.Off3 I C D news → ((@Ne Nat I C) ∧ (@Ne Nat I D) ∧ (@Ne Nat C D)) →
      wpAny (model prog w) A (eval elt (compEnvC scope cl C env)) (fun y s' => ElEnd h₀ L m ((I, oI) :: (C, oC) :: (D, LCg.lst ys) :: news) { s with heap := h, toks := tk } (f k) y s') E' { s with heap := h, toks := tk })
    (fin : ∀ g ys, IntsAre ys ((rangeKs a n).map f) → Fin { s with heap := g } ys news) : LCg.CompSrc prog w A h₀ L m env elt x scope cl Fin (.ref r) s := by
  refine LCg.CompSrc.range hh F N hr hsm hn hsz fun g => ?_
  refine kcf_range f ?_ ?_
  · intro k t I oI C oC D m₂ ys h tk E' h1 h2 hC hx F' N' off ne _
    refine wpAny_mono (turn k t I oI C oC D m₂ ys h tk E' h1 h2 hC hx F' N' off ne) (fun y s' hq => ?_) fun _ _ e => e
    obtain ⟨t', h', tk', rfl, rfl, F₂, N₂⟩ := hq
    exact ⟨h', tk', news, rfl, F₂, N₂, off, trivial, rfl, t', rfl⟩
  · intro ys hy
    exact fin g ys hy
end
/-- the use of the law's own take -/
theorem use_take {w : World} {Pn : Addr} {st sd ct many : Int} {t1 t2 t3 t : Tok} {ep : Nat}
    {mean : ExcName → Option Value} {mg mb : Str → Option Value} {dp un : Nat} {gd : Option (List Code)} {cn : Str} {cs : Scope} {a : Addr} {ccd : Value} {cl : List (Str × Addr)} {outer : List Env} {A₀ : Around} {base h₀ : Heap} {L : Addr}
    {m : Str → Option Value} {news : List (Addr × Obj)} {g : Obj → List (Addr × Obj)} {s : Shared} {Q E : Value → Shared → Prop}
    (B : Below A₀ base outer h₀) (F : Fr h₀ L s.heap m) (X : (hd.heap_39 w.params).In h₀) (N : News h₀ L s.heap news) (T : Top hd.view_39 (looseW hd.view_39 []) mean mg mb h₀) (hk : cs.kind = .function)
    (U : UpdF Pn (listOf #[.int st t1, .int sd t2, .int ct t3] ep) news g) (hst : 0 ≤ st) (hsd : 0 ≤ sd) (hsd2 : sd < 2147483647) (hct : 0 ≤ ct) (hct2 : ct ≤ 1000) (hm : 2 ≤ many) (hm2 : many ≤ 204) (hd : dp + 2 < recursionLimit) (hu : un + 16 < cLine)
    (ret : ∀ v tv st' sd' ct' t1' t2' t3' h' tk', Fr h₀ L h' m → News h₀ L h' (g (listOf #[.int st' t1', .int sd' t2', .int ct' t3'] ep)) → 0 ≤ v → v < many → 0 ≤ st' → 0 ≤ sd' → sd' < 2147483647 → 0 ≤ ct' → ct' ≤ ct + 1 → Q (.int v tv) { s with heap := h', toks := tk' }) :
    wpAny (model PySem.Challenge.rw_qd0109_01.row.prog w) (ktrTop dp un gd cn cs L a ccd cl outer) (call (.ref 204) [.ref Pn, .int many t]) Q E s := by
  have m3 : (Pn, (listOf #[.int st t1, .int sd t2, .int ct t3] ep : Obj)) ∈ news := by obtain ⟨pr, po, e, _⟩ := U.split; rw [e]; simp
  refine does_use1 (does_take w Pn st sd ct many t1 t2 t3 t ep hst hsd hsd2 hct hct2 hm hm2) (d := Pn) (k := fun o' => [(Pn, o')])
    (fun o' => by simp) (fun o' q hq => ?_) B F X N T hk (fun q hq => ?_) hd hu U fun r o' h' tk' hr F' N' => ?_
  · rw [List.mem_singleton.mp hq]; exact .inl rfl
  · rw [List.mem_singleton.mp hq]; exact m3
  · obtain ⟨v, tv, st', sd', ct', t1', t2', t3', rfl, rfl, b1, b2, b3, b4, b5, b6, b7⟩ := hr
    exact ret v tv st' sd' ct' t1' t2' t3' h' tk' F' N' b1 b2 b3 b4 b5 b6 b7
local macro_rules | `(tactic| walk_at "eval ListComp") => `(tactic| (k_here; k_dflt (refine LCt.ListComp_T (F₀ := by k_asm) (by with_unfolding_all rfl) (by decide) (by rfl) (by decide) (by rfl) ?_); k_dflt lct_toSrc))
local macro_rules | `(tactic| walk_at "CompSrcT") => `(tactic| (k_here; k_dflt (refine' filter_src ?fb ?hh ?kF ?kN ?km ?ki ?kz ?kt ?kf ?c1 ?c2 ?c3; (case fb => assumption); (case hh => exact rfl); (case kF => k_asm); (case kN => k_asm); (case km => k_mem); (case ki => assumption); (case kz => assumption); (case c1 => rfl); (case c2 => rfl); (case c3 => decide)); (first | (intro k' t' I' oI' C' oC' D' m' ys' h' tk' E' hk' hC' hx' F' N' off' ne'; (simp only [LCg.Off3, and_true] at off')) | skip)))
local macro_rules | `(tactic| walk_at "TestEnd") => `(tactic| exact ⟨rfl, _, _, rfl, by assumption, by assumption⟩)
set_option maxRecDepth 100000 in
set_option maxHeartbeats 8000000 in
theorem does_drop (w : World) (Pi Pd PL KD Mi : Addr) (k1 k2 k3 : Tok) (y1 y2 y3 : Int) (vs : List Value) (ps : List Int) (ep : Nat) (p : Int) (t : Tok) (hps : IntsAre vs ps) (hlen : ps.length ≤ 1000) {rk : Nat → Nat} (r1 : Rk rk Pi 1) (r2 : Rk rk Pd 2) (r7 : Rk rk PL 7) :
    Does w 47 8 80 [.ref Pi, .int p t] [(Pi, instObj 71 Pd), (Pd, dictOf [⟨y1, .str "memory" k1, .ref Mi⟩, ⟨y2, .str "places" k2, .ref PL⟩, ⟨y3, .str "kept" k3, .ref KD⟩] 3), (PL, listOf (List.toArray vs) ep)]
      (fun r nw new => ∃ D o', new = [(D, o')] ∧ nw = [(Pi, instObj 71 Pd), (Pd, dictOf [⟨y1, .str "memory" k1, .ref Mi⟩, ⟨y2, .str "places" k2, .ref D⟩, ⟨y3, .str "kept" k3, .ref KD⟩] 3), (PL, listOf (List.toArray vs) ep)] ∧ r = .none ∧ ∃ vs' ep', o' = listOf (List.toArray vs') ep' ∧ IntsAre vs' (ps.filter (fun q => q != p))) := by
  unfold Does
  k_fill
  intro mean mg mb dp un gd cn cs a ccd cl outer A₀ base h₀ L m rest s Q E B F X N T hk hoff hdN huN hret
  simp only [List.cons_append, List.nil_append] at N
  simp only [List.map_cons, List.map_nil] at hoff
  have hz := arr_line hps hlen
  have hfb : FilterBy (fun q => q != p) := trivial
  w_on
  refine wpAny_call ?_
  k_dflt (refine' code_defC ?k1 ?k2 ?k3 ?k4 ?k5 ?kA ?kF ?kK ?k6 ?k7 ?k8 ?k9 ?kB ?kD ?_ ?c2 ?c3 ?c4; (case kA => exact rfl); (case kF => exact rfl); (case kK => assumption); (case k1 => k_asm); (case k2 => k_asm); (case k3 => k_asm); (case k4 => k_asm); (case k5 => k_asm); (case k6 => k_is); (case k7 => k_is); (case k8 => ktr_room); (case k9 => exact BindsTo.of_eq rfl); (case kB => exact rfl); (case kD => decide +kernel); (case c2 => exact rfl); (case c3 => exact rfl); (case c4 => exact rfl); k_whole; intro g' L' h' tk' cells' FG' F' N' Y' B' X' T' l1; (try k_lt l1); k_cells Y'; (try simp only [List.cons_append, List.nil_append] at N'); (try dsimp only); (try k_fold))
  k_steps
  rename IntsAre _ (List.filter _ _) => hI
  rename News _ _ _ (_ :: _ :: _) => kN
  rename _ ∧ _ ∧ _ ∧ _ ∧ LCg.Off1 _ rest => hne
  exact hret _ _ [(_, _)] _ _ ⟨_, _, rfl, rfl, rfl, _, _, rfl, hI⟩ (by rfl) (by assumption) (fun p hp => kN p (by rcases List.mem_cons.mp hp with h | h; exact h ▸ .head _; exact .tail _ (.tail _ h))) (one_new ⟨hne.2.1, hne.2.2.1, hne.2.2.2.1, hne.2.2.2.2⟩)
local macro_rules | `(tactic| walk_at "compareOp NotIn int ref") => `(tactic| (k_here; k_dflt (refine' notin_DI ?N ?m ?o ?D ?_; (case N => k_asm); (case m => k_mem); (case o => assumption); (case D => assumption))))
local macro_rules | `(tactic| walk_at "setItem ref int") => `(tactic| (k_here; k_dflt (refine' set_DI ?F ?N ?U ?D ?z ?_; (case F => k_asm); (case N => k_asm); (case U => k_updF); (case D => assumption); (case z => omega); intro h' o' F' N' D'; (try dsimp only at N'); (try k_sweep))))
local macro_rules | `(tactic| walk_at "getMethod ref") => `(tactic| (k_here; k_dflt (refine' getMethod_tab_any (knd := intKind _ _) (enc := PyData.int) ?k1 (tab_DI ?N ?m ?o ?D) ?_; (case k1 => exact rfl); (case N => k_asm); (case m => k_mem); (case o => assumption); (case D => assumption); k_whole)))
local macro_rules | `(tactic| walk_at "call builtin:dict.get") => `(tactic| (k_here; k_dflt (refine' get2_DI ?N ?m ?o ?D ?_; (case N => k_asm); (case m => k_mem); (case o => assumption); (case D => assumption); intro t')))
local macro_rules | `(tactic| walk_at "call type:bytes") => `(tactic| (k_here; (with_reducible show wpAny _ _ (call (Value.type _) [Value.ref _]) _ _ _); k_dflt (refine' bytes_K ?F ?N ?l ?i ?r ?z ?h ?_; (case F => k_asm); (case N => k_asm); (case l => exact News.isList (by k_asm) (by k_mem)); (case i => assumption); (case r => assumption); (case z => assumption); (case h => with_unfolding_all rfl); k_whole)))
local macro_rules | `(tactic| walk_at "exec For Name Call cons nil") => `(tactic| (k_here; (rename Fr _ _ _ _ => lF'); (with_unfolding_all refine' For_invVF lF' ?k1 ?k2 ?_; (case k1 => exact rfl); (case k2 => exact rfl); k_whole)))
local macro_rules | `(tactic| walk_at "pyIter ref") => `(tactic| ((with_reducible show wpAny _ _ (pyIter (Value.ref _)) (fun it s₂ => LoopAtV _ _ _ _ _ _ _ _ _ it s₂) _ _); refine Halt.mk ?_))
local macro_rules | `(tactic| walk_at "Turn2") => `(tactic| (dsimp only [Turn2]))
local macro_rules | `(tactic| walk_at "TurnEnd") => `(tactic| (refine Halt.mk ?_))
set_option maxRecDepth 100000 in
set_option maxHeartbeats 8000000 in
theorem does_octets (w : World) (Pi Pd PL KD Mi : Addr) (k1 k2 k3 : Tok) (y1 y2 y3 : Int) (Md H : Addr) (kt : Tok) (hh : Int) (oH : Obj) (l : List (Int × Int)) (oK : Obj) (kl : List (Int × Int)) (t1 t2 : Tok)
    (hlo : (H == sysModules) = false) (hlo2 : (KD == sysModules) = false) (hD : DI w oH l) (hK : DI w oK kl) (hM : ∀ k : Int, 0 ≤ k → k < 8 → (getI l (256 + k)).isSome = true)
    (hb : ∀ n ∈ shown (getI l) (getI kl) 8, 0 ≤ n ∧ n < 256) :
    Does w 68 8 80 [.ref Pi, .int 256 t1, .int 8 t2] [(Pi, instObj 71 Pd), (Pd, dictOf [⟨y1, .str "memory" k1, .ref Mi⟩, ⟨y2, .str "places" k2, .ref PL⟩, ⟨y3, .str "kept" k3, .ref KD⟩] 3), (Mi, instObj 179 Md), (Md, dictOf [⟨hh, .str "held" kt, .ref H⟩] 1), (H, oH), (KD, oK)]
      (fun r nw new => new = [] ∧ nw = [(Pi, instObj 71 Pd), (Pd, dictOf [⟨y1, .str "memory" k1, .ref Mi⟩, ⟨y2, .str "places" k2, .ref PL⟩, ⟨y3, .str "kept" k3, .ref KD⟩] 3), (Mi, instObj 179 Md), (Md, dictOf [⟨hh, .str "held" kt, .ref H⟩] 1), (H, oH), (KD, oK)] ∧ ∃ tb, r = .bytes (byteArr (shown (getI l) (getI kl) 8)) tb) := by
  unfold Does
  k_fill
  intro mean mg mb dp un gd cn cs a ccd cl outer A₀ base h₀ L m rest s Q E B F X N T hk hoff hdN huN hret
  simp only [List.cons_append, List.nil_append] at N
  simp only [List.map_cons, List.map_nil] at hoff
  w_on
  refine wpAny_call ?_
  k_dflt ktr_enter
  k_steps
  rename_i FD hh1 l1 hh2 F0 N0 hh3 tk3 ta tb tc hR F1 N1 hkeep
  refine iter_rng2 (n := 8) (Str.ofString "octet") [FD] (fun i nx => ∃ vs ep, nx = ((FD, listOf (List.toArray vs) ep) :: [(Pi, instObj 71 Pd), (Pd, dictOf [⟨y1, .str "memory" k1, .ref Mi⟩, ⟨y2, .str "places" k2, .ref PL⟩, ⟨y3, .str "kept" k3, .ref KD⟩] 3), (Mi, instObj 179 Md), (Md, dictOf [⟨hh, .str "held" kt, .ref H⟩] 1), (H, oH), (KD, oK)]) ++ rest ∧ IntsAre vs (shown (getI l) (getI kl) i)) rfl hR (by decide) rfl F1 N1 ?_ ?_ ?_ ?_
  · exact ⟨[], 0, rfl, .nil⟩
  · rintro i nx ⟨vs, ep, rfl, _⟩ a ha
    simp only [List.mem_cons, List.not_mem_nil, or_false] at ha
    subst ha
    simp
  · clear F1 N1 F0 N0
    rintro i k t u news₁ h tk own I oI hi hk ho hIo hoI ⟨vs, ep, rfl, hvs⟩ F1 N1
    have ho2 : OwnOff (rest ++ own) [FD] := off_app (off_lt l1.2.2.2.2.2.2) ho
    simp only [List.cons_append, List.nil_append] at N1
    have hk1 : k = (i : Int) := by omega
    subst hk1
    obtain ⟨v, hv9⟩ : ∃ v, getI l (256 + (i : Int)) = some v := Option.isSome_iff_exists.mp (hM _ (by omega) (by omega))
    have hz : (List.toArray vs).size ≤ sizeLine := by rw [sizeLine_eq, List.size_toArray, hvs.length, shown_len]; omega
    have fin : ∀ (x : Int) (tx : Tok) (h' : Heap) (tk' : Nat) (m' : Str → Option Value) (L9 : Addr) (g9 : Heap) (m9 : Str → Option Value), x = showG (getI l) (getI kl) (256 + (i : Int)) → Fr g9 L9 h' m' →
        News g9 L9 h' ((FD, listOf ((List.toArray vs).push (.int x tx)) (ep + 1)) :: [(Pi, instObj 71 Pd), (Pd, dictOf [⟨y1, .str "memory" k1, .ref Mi⟩, ⟨y2, .str "places" k2, .ref PL⟩, ⟨y3, .str "kept" k3, .ref KD⟩] 3), (Mi, instObj 179 Md), (Md, dictOf [⟨hh, .str "held" kt, .ref H⟩] 1), (H, oH), (KD, oK)] ++ (rest ++ own)) → (∀ z, z ≠ Str.ofString "at" → z ≠ Str.ofString "octet" → m' z = m9 z) →
        TurnEnd g9 L9 (fun m' nx => (∀ z, z ≠ Str.ofString "at" → z ≠ Str.ofString "octet" → m' z = m9 z) ∧ ∃ vs ep, nx = ((FD, listOf (List.toArray vs) ep) :: [(Pi, instObj 71 Pd), (Pd, dictOf [⟨y1, .str "memory" k1, .ref Mi⟩, ⟨y2, .str "places" k2, .ref PL⟩, ⟨y3, .str "kept" k3, .ref KD⟩] 3), (Mi, instObj 179 Md), (Md, dictOf [⟨hh, .str "held" kt, .ref H⟩] 1), (H, oH), (KD, oK)]) ++ rest ∧ IntsAre vs (shown (getI l) (getI kl) (i + 1))) own I { s with heap := h, toks := tk } { s with heap := h', toks := tk' } := by
      intro x tx h' tk' m' L9 g9 m9 hx F N hm9
      rw [List.push_toArray] at N
      exact ⟨h', tk', m', (_ :: [(Pi, instObj 71 Pd), (Pd, dictOf [⟨y1, .str "memory" k1, .ref Mi⟩, ⟨y2, .str "places" k2, .ref PL⟩, ⟨y3, .str "kept" k3, .ref KD⟩] 3), (Mi, instObj 179 Md), (Md, dictOf [⟨hh, .str "held" kt, .ref H⟩] 1), (H, oH), (KD, oK)]) ++ rest, rfl, F, (fun p hp => N p (by rw [List.append_assoc] at hp; exact hp)), same_adr (by rfl) hoI, hm9, _, _, rfl, by rw [shown_next, hx]; exact ints_snoc hvs _ _⟩
    k_steps
    · rename News _ _ _ _ => kN
      exact fin _ _ _ _ _ _ _ _ (by unfold showG; rename v = 204 => e; subst e; rw [hv9, if_pos rfl]) (by assumption) kN (fun z h1 h2 => by simp only [if_neg h1, if_neg h2])
    · rename News _ _ _ _ => kN
      exact fin _ _ _ _ _ _ _ _ (by unfold showG; rw [hv9, if_neg (by intro e; cases e; contradiction)]; rfl) (by assumption) kN (fun z h1 h2 => by simp only [if_neg h1, if_neg h2])
  · clear F1 N1 F0 N0
    rintro u news₁ h tk ⟨vs, ep, rfl, hvs⟩ F1 N1
    simp only [List.cons_append, List.nil_append] at N1
    have hz : vs.length ≤ sizeLine := by rw [sizeLine_eq, hvs.length, shown_len]; omega
    k_steps
    rename News _ _ _ _ => kN
    exact hret _ [(Pi, instObj 71 Pd), (Pd, dictOf [⟨y1, .str "memory" k1, .ref Mi⟩, ⟨y2, .str "places" k2, .ref PL⟩, ⟨y3, .str "kept" k3, .ref KD⟩] 3), (Mi, instObj 179 Md), (Md, dictOf [⟨hh, .str "held" kt, .ref H⟩] 1), (H, oH), (KD, oK)] [] _ _ ⟨rfl, rfl, _, rfl⟩ rfl (by assumption) (fun p hp => kN p (.tail _ hp)) no_new
local macro_rules | `(tactic| walk_at "call ref") => `(tactic| (k_here; (with_reducible show wpAny _ _ (call (Value.ref 117) _ _) _ _ _); (k_dflt (refine' use_set_octet ?kB ?kF ?kX ?kN ?kT ?kk ?m1 ?m2 ?U ?hD ?r3 ?r4 ?r5 ?p0 ?p1 ?hz ?kd ?ku ?_; (case kB => k_asm); (case kF => k_asm); (case kX => k_asm); (case kN => k_asm); (case kT => k_asm); (case kk => first | exact rfl | assumption); (case m1 => k_mem); (case m2 => k_mem); (case U => k_updF); (case hD => assumption); (case r3 => assumption); (case r4 => assumption); (case r5 => assumption); (case p0 => omega); (case p1 => omega); (case hz => omega); (case kd => ktr_room); (case ku => ktr_units); intro o9 h9 tk9 F' N' D9; (try dsimp only at N'); (try k_sweep)))))
set_option maxRecDepth 100000 in
set_option maxHeartbeats 8000000 in
theorem does_plant (w : World) (Pi Pd PL KD Mi : Addr) (k1 k2 k3 : Tok) (y1 y2 y3 : Int) (Md H : Addr) (kt : Tok) (hh : Int) (oH : Obj) (l : List (Int × Int)) (oK : Obj) (kl : List (Int × Int)) (vs : List Value) (ps : List Int) (ep : Nat)
    (hlo : (H == sysModules) = false) (hlo2 : (KD == sysModules) = false) (hD : DI w oH l) (hK : DI w oK kl) (hM : ∀ p ∈ ps, 256 ≤ p ∧ p < 264 ∧ (getI l p).isSome = true)
    (hps : IntsAre vs ps) (hlen : ps.length ≤ 500) (hl : l.length ≤ 500) (hkl : kl.length ≤ 400) {rk : Nat → Nat} (r1 : Rk rk Pi 1) (r2 : Rk rk Pd 2) (r3 : Rk rk Mi 3) (r4 : Rk rk Md 4) (r5 : Rk rk H 5) (r6 : Rk rk KD 6) (r7 : Rk rk PL 7) :
    Does w 54 8 80 [.ref Pi] [(Pi, instObj 71 Pd), (Pd, dictOf [⟨y1, .str "memory" k1, .ref Mi⟩, ⟨y2, .str "places" k2, .ref PL⟩, ⟨y3, .str "kept" k3, .ref KD⟩] 3), (Mi, instObj 179 Md), (Md, dictOf [⟨hh, .str "held" kt, .ref H⟩] 1), (H, oH), (KD, oK), (PL, listOf (List.toArray vs) ep)]
      (fun r nw new => new = [] ∧ r = .none ∧ ∃ oH' l' oK' kl', nw = [(Pi, instObj 71 Pd), (Pd, dictOf [⟨y1, .str "memory" k1, .ref Mi⟩, ⟨y2, .str "places" k2, .ref PL⟩, ⟨y3, .str "kept" k3, .ref KD⟩] 3), (Mi, instObj 179 Md), (Md, dictOf [⟨hh, .str "held" kt, .ref H⟩] 1), (H, oH'), (KD, oK'), (PL, listOf (List.toArray vs) ep)] ∧ DI w oH' l' ∧ DI w oK' kl' ∧ l'.length = l.length ∧ kl'.length ≤ kl.length + ps.length ∧
        (∀ p, getI l' p = plantL (getI l) (getI kl) ps p) ∧ (∀ p, getI kl' p = plantK (getI l) (getI kl) ps p)) := by
  unfold Does
  k_fill
  intro mean mg mb dp un gd cn cs a ccd cl outer A₀ base h₀ L m rest s Q E B F X N T hk hoff hdN huN hret
  simp only [List.cons_append, List.nil_append] at N
  simp only [List.map_cons, List.map_nil] at hoff
  w_on
  refine wpAny_call ?_
  k_dflt ktr_enter
  k_steps
  rename Fr _ _ _ _ => F1
  rename News _ _ _ _ => N1
  refine iter_led2 (ep := ep) (Str.ofString "octet") [H, KD] (fun i nx => ∃ oH' l' oK' kl', nx = [(Pi, instObj 71 Pd), (Pd, dictOf [⟨y1, .str "memory" k1, .ref Mi⟩, ⟨y2, .str "places" k2, .ref PL⟩, ⟨y3, .str "kept" k3, .ref KD⟩] 3), (Mi, instObj 179 Md), (Md, dictOf [⟨hh, .str "held" kt, .ref H⟩] 1), (H, oH'), (KD, oK'), (PL, listOf (List.toArray vs) ep)] ++ rest ∧ DI w oH' l' ∧ DI w oK' kl' ∧ l'.length = l.length ∧ kl'.length ≤ kl.length + i ∧
        (∀ p, getI l' p = plantL (getI l) (getI kl) (ps.take i) p) ∧ (∀ p, getI kl' p = plantK (getI l) (getI kl) (ps.take i) p)) rfl N1 ?hm9 hps F1 N1 ?_ ?_ ?_ ?_
  · k_mem
  · exact ⟨oH, l, oK, kl, rfl, hD, hK, rfl, Nat.le_refl _, fun p => by simp [plantL], fun p => by simp [plantK]⟩
  · rintro i nx ⟨oH', l', oK', kl', rfl, _⟩ a ha
    simp only [List.mem_cons, List.not_mem_nil, or_false] at ha
    rcases ha with rfl | rfl
    · exact ⟨ne_rk (by assumption) (by assumption) (by decide), by simp⟩
    · exact ⟨ne_rk (by assumption) (by assumption) (by decide), by simp⟩
  · clear F1 N1
    rintro i k t u news₁ h tk own I oI hk9 ho hIo hoI ⟨oH', l', oK', kl', rfl, hD1, hK1, hl1, hk1, hL1, hKK1⟩ F1 N1
    have hmem := List.mem_of_getElem? hk9
    obtain ⟨p1, p2, p3⟩ := hM k hmem
    have hi : i < ps.length := by
      by_cases h9 : i < ps.length
      · exact h9
      · rw [List.getElem?_eq_none (by omega)] at hk9; cases hk9
    have ho2 : OwnOff (rest ++ own) [H, KD] := off_app (off_sub hoff (by simp)) ho
    simp only [List.cons_append, List.nil_append] at N1
    obtain ⟨v, hv9⟩ : ∃ v, getI l' k = some v := by
      rw [hL1]; unfold plantL; split
      · exact ⟨_, rfl⟩
      · exact Option.isSome_iff_exists.mp p3
    have hit : (getI kl' k = none ∨ v ≠ 204) → ∀ (h' : Heap) (tk' : Nat) (m' : Str → Option Value) (L9 : Addr) (g9 : Heap) (m9 : Str → Option Value) (o1 o2 : Obj), DI w o1 (putI l' k 204) → DI w o2 (putI kl' k v) → Fr g9 L9 h' m' →
        News g9 L9 h' ([(Pi, instObj 71 Pd), (Pd, dictOf [⟨y1, .str "memory" k1, .ref Mi⟩, ⟨y2, .str "places" k2, .ref PL⟩, ⟨y3, .str "kept" k3, .ref KD⟩] 3), (Mi, instObj 179 Md), (Md, dictOf [⟨hh, .str "held" kt, .ref H⟩] 1), (H, o1), (KD, o2), (PL, listOf (List.toArray vs) ep)] ++ (rest ++ own)) → (∀ z, z ≠ Str.ofString "place" → z ≠ Str.ofString "octet" → m' z = m9 z) →
        TurnEnd g9 L9 (fun m' nx => (∀ z, z ≠ Str.ofString "place" → z ≠ Str.ofString "octet" → m' z = m9 z) ∧ ∃ oH' l' oK' kl', nx = [(Pi, instObj 71 Pd), (Pd, dictOf [⟨y1, .str "memory" k1, .ref Mi⟩, ⟨y2, .str "places" k2, .ref PL⟩, ⟨y3, .str "kept" k3, .ref KD⟩] 3), (Mi, instObj 179 Md), (Md, dictOf [⟨hh, .str "held" kt, .ref H⟩] 1), (H, oH'), (KD, oK'), (PL, listOf (List.toArray vs) ep)] ++ rest ∧ DI w oH' l' ∧ DI w oK' kl' ∧ l'.length = l.length ∧ kl'.length ≤ kl.length + (i + 1) ∧
        (∀ p, getI l' p = plantL (getI l) (getI kl) (ps.take (i + 1)) p) ∧ (∀ p, getI kl' p = plantK (getI l) (getI kl) (ps.take (i + 1)) p)) own I { s with heap := h, toks := tk } { s with heap := h', toks := tk' } := by
      intro hc h' tk' m' L9 g9 m9 o1 o2 d1 d2 F N hm9
      obtain ⟨e1, e2⟩ := plant_hit hL1 hKK1 p3 hv9 hc
      refine ⟨h', tk', m', [(Pi, instObj 71 Pd), (Pd, dictOf [⟨y1, .str "memory" k1, .ref Mi⟩, ⟨y2, .str "places" k2, .ref PL⟩, ⟨y3, .str "kept" k3, .ref KD⟩] 3), (Mi, instObj 179 Md), (Md, dictOf [⟨hh, .str "held" kt, .ref H⟩] 1), (H, o1), (KD, o2), (PL, listOf (List.toArray vs) ep)] ++ rest, rfl, F, by rw [List.append_assoc]; exact N, same_adr (by rfl) hoI, hm9, o1, _, o2, _, rfl, d1, d2, (putI_same hv9).trans hl1, Nat.le_trans (putI_len _ _ _) (by omega), ?_, ?_⟩
      · intro p; rw [getI_put, take_next hk9]; exact e1 p
      · intro p; rw [getI_put, take_next hk9]; exact e2 p
    k_steps
    · rename News _ _ _ _ => kN
      exact hit (.inr (by assumption)) _ _ _ _ _ _ _ _ (by assumption) (by assumption) (by assumption) kN (fun z h1 h2 => by simp only [if_neg h1, if_neg h2])
    · rename News _ _ _ _ => kN
      rename v = 204 => e204
      obtain ⟨e1, e2⟩ := plant_miss hL1 hKK1 (by rw [hv9, e204]) (by assumption)
      refine ⟨_, _, _, [(Pi, instObj 71 Pd), (Pd, dictOf [⟨y1, .str "memory" k1, .ref Mi⟩, ⟨y2, .str "places" k2, .ref PL⟩, ⟨y3, .str "kept" k3, .ref KD⟩] 3), (Mi, instObj 179 Md), (Md, dictOf [⟨hh, .str "held" kt, .ref H⟩] 1), (H, oH'), (KD, oK'), (PL, listOf (List.toArray vs) ep)] ++ rest, rfl, by assumption, by rw [List.append_assoc]; exact kN, same_adr (by rfl) hoI, (fun z h1 h2 => by simp only [if_neg h1, if_neg h2]), oH', l', oK', kl', rfl, hD1, hK1, hl1, by omega, ?_, ?_⟩
      · intro p; rw [take_next hk9]; exact e1 p
      · intro p; rw [take_next hk9]; exact e2 p
    · rename News _ _ _ _ => kN
      exact hit (.inl (by rename (getI kl' k).isSome = false => e9; simpa using e9)) _ _ _ _ _ _ _ _ (by assumption) (by assumption) (by assumption) kN (fun z h1 h2 => by simp only [if_neg h1, if_neg h2])
  · rintro u news₁ h tk ⟨oH', l', oK', kl', rfl, hD1, hK1, hl1, hk1, hL1, hKK1⟩ F1 N1
    rw [List.take_length] at hL1 hKK1
    k_steps
    rename News _ _ _ _ => kN
    exact hret _ [(Pi, instObj 71 Pd), (Pd, dictOf [⟨y1, .str "memory" k1, .ref Mi⟩, ⟨y2, .str "places" k2, .ref PL⟩, ⟨y3, .str "kept" k3, .ref KD⟩] 3), (Mi, instObj 179 Md), (Md, dictOf [⟨hh, .str "held" kt, .ref H⟩] 1), (H, oH'), (KD, oK'), (PL, listOf (List.toArray vs) ep)] [] _ _ ⟨rfl, rfl, oH', l', oK', kl', rfl, hD1, hK1, hl1, hk1, hL1, hKK1⟩ rfl (by assumption) kN no_new
local macro_rules | `(tactic| walk_at "call type:list") => `(tactic| (k_here; (with_reducible show wpAny _ _ (call (Value.type "list") [Value.ref _]) _ _ _); k_dflt (refine' list_DI ?hh ?F ?N ?m ?o ?D ?z ?_; (case hh => exact rfl); (case F => k_asm); (case N => k_asm); (case m => k_mem); (case o => assumption); (case D => assumption); (case z => omega); k_whole; intro B' n' h' tk' vs' F' N' l1 iB'; (try k_lt l1); (try k_sweep))))
local macro_rules | `(tactic| walk_at "call builtin:sorted") => `(tactic| (k_here; (with_reducible show wpAny _ _ (call (Value.builtin _) [Value.ref _]) _ _ _); k_dflt (refine' sorted_L ?F ?N ?m ?i ?z ?_; (case F => k_asm); (case N => k_asm); (case m => k_mem); (case i => assumption); (case z => (rw [List.length_map]; omega)); k_whole; intro D' v' n' c' h' F' N' l1 i' e' p'; (try k_lt l1); (try k_sweep))))
local macro_rules | `(tactic| walk_at "subscriptTail Name Name ref int") => `(tactic| (k_here; (with_reducible show wpAny _ _ (subscriptTail _ _ (Value.ref _) (Value.int _ _)) _ _ _); k_dflt (refine' item_DI ?N ?m ?o ?D ?v ?_ ?hs ?hg; (case N => k_asm); (case m => k_mem); (case o => assumption); (case D => assumption); (case v => assumption); (case hs => with_unfolding_all rfl); (case hg => (intro _; with_unfolding_all rfl)); intro t')))
theorem liftL_congr {gl gk : Int → Option Int} {a b : List Int} (h : ∀ x, x ∈ a ↔ x ∈ b) (p : Int) : liftL gl gk a p = liftL gl gk b p := by unfold liftL; simp only [h p]
set_option maxRecDepth 100000 in
set_option maxHeartbeats 8000000 in
theorem does_lift (w : World) (Pi Pd PL KD Mi : Addr) (k1 k2 k3 : Tok) (y1 y2 y3 : Int) (Md H : Addr) (kt : Tok) (hh : Int) (oH : Obj) (l : List (Int × Int)) (oK : Obj) (kl : List (Int × Int))
    (hlo : (H == sysModules) = false) (hlo2 : (KD == sysModules) = false) (hD : DI w oH l) (hK : DI w oK kl) (hM : ∀ p, (getI kl p).isSome = true → 256 ≤ p ∧ p < 264 ∧ (getI l p).isSome = true)
    (hl : l.length ≤ 500) {rk : Nat → Nat} (r1 : Rk rk Pi 1) (r2 : Rk rk Pd 2) (r3 : Rk rk Mi 3) (r4 : Rk rk Md 4) (r5 : Rk rk H 5) (r6 : Rk rk KD 6) :
    Does w 61 8 80 [.ref Pi] [(Pi, instObj 71 Pd), (Pd, dictOf [⟨y1, .str "memory" k1, .ref Mi⟩, ⟨y2, .str "places" k2, .ref PL⟩, ⟨y3, .str "kept" k3, .ref KD⟩] 3), (Mi, instObj 179 Md), (Md, dictOf [⟨hh, .str "held" kt, .ref H⟩] 1), (H, oH), (KD, oK)]
      (fun r nw new => r = .none ∧ ∃ KD' oK' oH' l', new = [(KD', oK')] ∧ nw = [(Pi, instObj 71 Pd), (Pd, dictOf [⟨y1, .str "memory" k1, .ref Mi⟩, ⟨y2, .str "places" k2, .ref PL⟩, ⟨y3, .str "kept" k3, .ref KD'⟩] 3), (Mi, instObj 179 Md), (Md, dictOf [⟨hh, .str "held" kt, .ref H⟩] 1), (H, oH'), (KD, oK)] ∧ DI w oH' l' ∧ DI w oK' [] ∧ (KD' == sysModules) = false ∧ l'.length = l.length ∧ (∀ p, getI l' p = liftL (getI l) (getI kl) (kl.map (·.1)) p)) := by
  unfold Does
  k_fill
  intro mean mg mb dp un gd cn cs a ccd cl outer A₀ base h₀ L m rest s Q E B F X N T hk hoff hdN huN hret
  simp only [List.cons_append, List.nil_append] at N
  simp only [List.map_cons, List.map_nil] at hoff
  w_on
  have hkl := few_DI hK fun p hp => ⟨(hM p hp).1, (hM p hp).2.1⟩
  refine wpAny_call ?_
  k_dflt ktr_enter
  k_steps
  rename_i D9 v9 ns9 c9 h9 F1 N1 hi9 e9 hp9 l9
  refine iter_led2 (news := [(Pi, instObj 71 Pd), (Pd, dictOf [⟨y1, .str "memory" k1, .ref Mi⟩, ⟨y2, .str "places" k2, .ref PL⟩, ⟨y3, .str "kept" k3, .ref KD⟩] 3), (Mi, instObj 179 Md), (Md, dictOf [⟨hh, .str "held" kt, .ref H⟩] 1), (H, oH), (KD, oK)] ++ rest) (Str.ofString "place") [H] (fun i nx => ∃ oH' l', nx = [(Pi, instObj 71 Pd), (Pd, dictOf [⟨y1, .str "memory" k1, .ref Mi⟩, ⟨y2, .str "places" k2, .ref PL⟩, ⟨y3, .str "kept" k3, .ref KD⟩] 3), (Mi, instObj 179 Md), (Md, dictOf [⟨hh, .str "held" kt, .ref H⟩] 1), (H, oH'), (KD, oK)] ++ rest ∧ DI w oH' l' ∧ l'.length = l.length ∧
        (∀ p, getI l' p = liftL (getI l) (getI kl) (List.take i ns9) p)) rfl N1 (.head _) hi9 F1 (fun p hp => N1 p (.tail _ (.tail _ hp))) ?_ ?_ ?_ ?_
  · exact ⟨oH, l, rfl, hD, rfl, fun p => by simp [liftL]⟩
  · rintro i nx ⟨oH', l', rfl, _⟩ a ha
    simp only [List.mem_cons, List.not_mem_nil, or_false] at ha
    subst ha
    exact ⟨by refine neN ?_; omega, by simp⟩
  · clear F1 N1
    rintro i k t u news₁ h tk own I oI hk9 ho hIo hoI ⟨oH', l', rfl, hD1, hl1, hL1⟩ F1 N1
    have hmem := List.mem_of_getElem? hk9
    have hks := getI_mem.mpr ((hp9 k).mp hmem)
    obtain ⟨p1, p2, p3⟩ := hM k hks
    obtain ⟨kv, hkv9⟩ := Option.isSome_iff_exists.mp hks
    have ho2 : OwnOff (rest ++ own) [H] := off_app (off_sub hoff (by simp)) ho
    simp only [List.cons_append, List.nil_append] at N1
    obtain ⟨v, hv9⟩ : ∃ v, getI l' k = some v := by
      rw [hL1]; unfold liftL; split
      · exact ⟨_, hkv9⟩
      · exact Option.isSome_iff_exists.mp p3
    k_steps
    · rename News _ _ _ _ => kN
      rename v = 204 => e204
      refine ⟨_, _, _, [(Pi, instObj 71 Pd), (Pd, dictOf [⟨y1, .str "memory" k1, .ref Mi⟩, ⟨y2, .str "places" k2, .ref PL⟩, ⟨y3, .str "kept" k3, .ref KD⟩] 3), (Mi, instObj 179 Md), (Md, dictOf [⟨hh, .str "held" kt, .ref H⟩] 1), (H, _), (KD, oK)] ++ rest, rfl, by assumption, by rw [List.append_assoc]; exact kN, same_adr (by rfl) hoI, (fun z h1 h2 => by simp only [if_neg h1]), _, _, rfl, by assumption, (putI_same hv9).trans hl1, ?_⟩
      intro p; rw [getI_put, take_next hk9]; exact lift_hit hL1 (by rw [hv9, e204]) hkv9 p
    · rename News _ _ _ _ => kN
      refine ⟨_, _, _, [(Pi, instObj 71 Pd), (Pd, dictOf [⟨y1, .str "memory" k1, .ref Mi⟩, ⟨y2, .str "places" k2, .ref PL⟩, ⟨y3, .str "kept" k3, .ref KD⟩] 3), (Mi, instObj 179 Md), (Md, dictOf [⟨hh, .str "held" kt, .ref H⟩] 1), (H, oH'), (KD, oK)] ++ rest, rfl, by assumption, by rw [List.append_assoc]; exact kN, same_adr (by rfl) hoI, (fun z h1 h2 => by simp only [if_neg h1]), oH', l', rfl, hD1, hl1, ?_⟩
      intro p; rw [take_next hk9]; exact lift_miss hL1 hv9 (by assumption) p
  · clear F1 N1
    rintro u news₁ h tk ⟨oH', l', rfl, hD1, hl1, hL1⟩ F1 N1
    rw [List.take_length] at hL1
    simp only [List.cons_append, List.nil_append] at N1
    k_steps
    rename News _ _ _ _ => kN
    simp only [List.cons_append, List.nil_append] at hret
    refine hret _ [_, _, _, _, _, _] [(_, _)] _ _ ⟨rfl, _, _, oH', l', rfl, rfl, hD1, ⟨_, by assumption, by assumption⟩, by assumption, hl1, fun p => (hL1 p).trans (liftL_congr hp9 p)⟩ (by rfl) (by assumption) kN ?_
    rename @LT.lt Nat _ Pi _ ∧ _ => hlt
    refine one_new (off1_lt ?_)
    exact hlt
/-- the law's own dict of three lists -/
def WI (w : World) (o : Obj) (WP WL WO : Addr) : Prop :=
  o.IsDictOf (strKind PySem.Challenge.rw_qd0109_01.row.prog w) [(PySem.Str.ofString "places", .ref WP), (PySem.Str.ofString "planted", .ref WL), (PySem.Str.ofString "over", .ref WO)]
section
variable {w : World} {A : Around} {E : Value → Shared → Prop} {s : Shared} {h₀ : Heap} {L d : Addr} {m : Str → Option Value} {news : List (Addr × Obj)} {g : Obj → List (Addr × Obj)} {o : Obj} {WP WL WO D : Addr} {t : Tok}
theorem get_W {value slice : PySem.Expr} {x : Str} {v : Value} {Q : Value → Shared → Prop} (N : News h₀ L s.heap news) (hm : (d, o) ∈ news) (hW : WI w o WP WL WO)
    (hv : valueAt [(PySem.Str.ofString "places", Value.ref WP), (PySem.Str.ofString "planted", Value.ref WL), (PySem.Str.ofString "over", Value.ref WO)] x = some v) (h : Q v { s with toks := s.toks + 1 })
    (hs : subscripted slice false (.ref d) (.str x t) = operate [.ref d, .str x t] (getItem (.ref d) (.str x t)) := by with_unfolding_all rfl) (hg : ∀ r, letTemporaryGo value (.ref d) r = pure () := by intro _; with_unfolding_all rfl) :
    wpAny (model PySem.Challenge.rw_qd0109_01.row.prog w) A (subscriptTail value slice (.ref d) (.str x t)) Q E s := kda_item N hm hW (strKind_is _ _ _ _) hv h hs hg
theorem set_W {x : Str} {Q : Unit → Shared → Prop} {WP' WL' WO' : Addr} (F : Fr h₀ L s.heap m) (N : News h₀ L s.heap news) (U : UpdF d o news g) (hW : WI w o WP WL WO)
    (hst : stored [(PySem.Str.ofString "places", Value.ref WP), (PySem.Str.ofString "planted", Value.ref WL), (PySem.Str.ofString "over", Value.ref WO)] x (.ref D) = [(PySem.Str.ofString "places", Value.ref WP'), (PySem.Str.ofString "planted", Value.ref WL'), (PySem.Str.ofString "over", Value.ref WO')])
    (h : ∀ h' o', Fr h₀ L h' m → News h₀ L h' (g o') → WI w o' WP' WL' WO' → Q () { s with heap := h', toks := s.toks + 1 }) :
    wpAny (model PySem.Challenge.rw_qd0109_01.row.prog w) A (setItem (.ref d) (.str x t) (.ref D)) Q E s :=
  kda_set F N U hW (strKind_is _ _ _ _) (by rw [sizeLine_eq]; exact Nat.le_of_ble_eq_true rfl) fun h' o' F' N' hd => h h' o' F' N' (by unfold WI; rw [← hst]; exact hd)
end
def Once : Prop := True
theorem off1_ne {D a : Addr} {o : Obj} {news : List (Addr × Obj)} (h : LCg.Off1 D news) (hm : (a, o) ∈ news) : @Ne Nat a D := off1_mem h _ hm
theorem off1_ne' {D a : Addr} {o : Obj} {news : List (Addr × Obj)} (h : LCg.Off1 D news) (hm : (a, o) ∈ news) : @Ne Nat D a := (off1_mem h _ hm).symm
theorem updF_mem {d : Addr} {o o' : Obj} {news : List (Addr × Obj)} {g : Obj → List (Addr × Obj)} (U : UpdF d o news g) {p : Addr × Obj} (hp : p ∈ g o') : p = (d, o') ∨ (p ∈ news ∧ p.1 ≠ d) := by
  obtain ⟨pr, po, e, eg, h1, h2⟩ := U.split
  rw [eg o'] at hp
  rcases List.mem_append.mp hp with h | h
  · exact .inr ⟨e ▸ List.mem_append_left _ h, h1 p h⟩
  · rcases List.mem_cons.mp h with rfl | h
    · exact .inl rfl
    · exact .inr ⟨e ▸ List.mem_append_right _ (.tail _ h), h2 p h⟩
theorem updF_in {d : Addr} {o : Obj} {news : List (Addr × Obj)} {g : Obj → List (Addr × Obj)} (U : UpdF d o news g) : (d, o) ∈ news := by
  obtain ⟨pr, po, e, _⟩ := U.split; rw [e]; simp
inductive UpdF2 (d1 : Addr) (o1 : Obj) (d2 : Addr) (o2 : Obj) : List (Addr × Obj) → (Obj → Obj → List (Addr × Obj)) → Prop
  | one {r g} : (∀ p ∈ r, p.1 ≠ d1) → @Ne Nat d1 d2 → UpdF d2 o2 r g → UpdF2 d1 o1 d2 o2 ((d1, o1) :: r) (fun a b => (d1, a) :: g b)
  | two {r g} : (∀ p ∈ r, p.1 ≠ d2) → @Ne Nat d2 d1 → UpdF d1 o1 r g → UpdF2 d1 o1 d2 o2 ((d2, o2) :: r) (fun a b => (d2, b) :: g a)
  | skip {p r g} : p.1 ≠ d1 → p.1 ≠ d2 → UpdF2 d1 o1 d2 o2 r g → UpdF2 d1 o1 d2 o2 (p :: r) (fun a b => p :: g a b)
theorem updF2_mem {d1 d2 : Addr} {o1 o2 a b : Obj} : ∀ {news : List (Addr × Obj)} {g : Obj → Obj → List (Addr × Obj)}, UpdF2 d1 o1 d2 o2 news g → ∀ {p : Addr × Obj}, p ∈ g a b → p = (d1, a) ∨ p = (d2, b) ∨ (p ∈ news ∧ p.1 ≠ d1 ∧ p.1 ≠ d2)
  | _, _, .one h hn U, p, hp => by
    rcases List.mem_cons.mp hp with rfl | hp
    · exact .inl rfl
    · rcases updF_mem U hp with e | ⟨e1, e2⟩
      · exact .inr (.inl e)
      · exact .inr (.inr ⟨.tail _ e1, h p e1, e2⟩)
  | _, _, .two h hn U, p, hp => by
    rcases List.mem_cons.mp hp with rfl | hp
    · exact .inr (.inl rfl)
    · rcases updF_mem U hp with e | ⟨e1, e2⟩
      · exact .inl e
      · exact .inr (.inr ⟨.tail _ e1, e2, h p e1⟩)
  | _, _, .skip h1 h2 U, p, hp => by
    rcases List.mem_cons.mp hp with rfl | hp
    · exact .inr (.inr ⟨.head _, h1, h2⟩)
    · rcases updF2_mem U hp with e | e | ⟨e1, e2, e3⟩
      · exact .inl e
      · exact .inr (.inl e)
      · exact .inr (.inr ⟨.tail _ e1, e2, e3⟩)
theorem updF2_in {d1 d2 : Addr} {o1 o2 : Obj} : ∀ {news : List (Addr × Obj)} {g : Obj → Obj → List (Addr × Obj)}, UpdF2 d1 o1 d2 o2 news g → (d1, o1) ∈ news ∧ (d2, o2) ∈ news
  | _, _, .one _ _ U => ⟨.head _, .tail _ (updF_in U)⟩
  | _, _, .two _ _ U => ⟨.tail _ (updF_in U), .head _⟩
  | _, _, .skip _ _ U => ⟨.tail _ (updF2_in U).1, .tail _ (updF2_in U).2⟩
section
variable {w : World} {Pi Pd PL KD Mi Md H : Addr} {k1 k2 k3 kt : Tok} {y1 y2 y3 hh : Int} {oH oK : Obj} {l kl : List (Int × Int)} {vs : List Value} {ps : List Int} {epl : Nat}
    {mean : ExcName → Option Value} {mg mb : Str → Option Value} {dp un : Nat} {gd : Option (List Code)} {cn : Str} {cs : Scope} {a : Addr} {ccd : Value} {cl : List (Str × Addr)} {outer : List Env} {A₀ : Around} {base h₀ : Heap} {L : Addr}
    {m : Str → Option Value} {news : List (Addr × Obj)} {s : Shared} {Q E : Value → Shared → Prop}
theorem use_put {p : Int} {t : Tok} {g : Obj → List (Addr × Obj)}
    (B : Below A₀ base outer h₀) (F : Fr h₀ L s.heap m) (X : (hd.heap_39 w.params).In h₀) (N : News h₀ L s.heap news) (T : Top hd.view_39 (looseW hd.view_39 []) mean mg mb h₀) (hk : cs.kind = .function)
    (m1 : (Pi, instObj 71 Pd) ∈ news) (m2 : (Pd, dictOf [⟨y1, .str "memory" k1, .ref Mi⟩, ⟨y2, .str "places" k2, .ref PL⟩, ⟨y3, .str "kept" k3, .ref KD⟩] 3) ∈ news) (U : UpdF PL (listOf (List.toArray vs) epl) news g)
    (hps : IntsAre vs ps) (hlen : ps.length ≤ 1000) {rk : Nat → Nat} (r1 : Rk rk Pi 1) (r2 : Rk rk Pd 2) (r7 : Rk rk PL 7) (hd : dp + 4 < recursionLimit) (hu : un + 40 < cLine)
    (ret : ∀ vs' ep' h' tk', Fr h₀ L h' m → News h₀ L h' (g (listOf (List.toArray vs') ep')) → IntsAre vs' (if p ∈ ps then ps else ps ++ [p]) → Q .none { s with heap := h', toks := tk' }) :
    wpAny (model PySem.Challenge.rw_qd0109_01.row.prog w) (ktrTop dp un gd cn cs L a ccd cl outer) (call (.ref 42) [.ref Pi, .int p t]) Q E s := by
  refine does_use (does_put w Pi Pd PL KD Mi k1 k2 k3 y1 y2 y3 vs ps epl p t hps hlen r1 r2 r7) B F X N T hk (fun q hq => ?_) hd hu fun r nw new h' tk' hp _ F' N' _ => ?_
  · simp only [List.mem_cons, List.not_mem_nil, or_false] at hq
    rcases hq with rfl | rfl | rfl
    · exact m1
    · exact m2
    · exact updF_in U
  · obtain ⟨rfl, o', rfl, rfl, vs', ep', rfl, hi⟩ := hp
    refine ret vs' ep' h' tk' F' (N' _ fun q hq => ?_) hi
    rcases updF_mem U hq with rfl | ⟨e1, e2⟩
    · exact .inr (.inl (by simp))
    · refine .inr (.inr ⟨e1, fun z hz => ?_⟩)
      simp only [List.mem_cons, List.not_mem_nil, or_false] at hz
      rcases hz with rfl | rfl | rfl
      · exact .inl (by simp)
      · exact .inl (by simp)
      · exact .inr e2
theorem use_drop {p : Int} {t : Tok} {g : Obj → List (Addr × Obj)}
    (B : Below A₀ base outer h₀) (F : Fr h₀ L s.heap m) (X : (hd.heap_39 w.params).In h₀) (N : News h₀ L s.heap news) (T : Top hd.view_39 (looseW hd.view_39 []) mean mg mb h₀) (hk : cs.kind = .function)
    (m1 : (Pi, instObj 71 Pd) ∈ news) (U : UpdF Pd (dictOf [⟨y1, .str "memory" k1, .ref Mi⟩, ⟨y2, .str "places" k2, .ref PL⟩, ⟨y3, .str "kept" k3, .ref KD⟩] 3) news g) (m3 : (PL, (listOf (List.toArray vs) epl : Obj)) ∈ news)
    (hps : IntsAre vs ps) (hlen : ps.length ≤ 1000) {rk : Nat → Nat} (r1 : Rk rk Pi 1) (r2 : Rk rk Pd 2) (r7 : Rk rk PL 7) (hd : dp + 8 < recursionLimit) (hu : un + 80 < cLine)
    (ret : ∀ D vs' ep' h' tk', Fr h₀ L h' m → News h₀ L h' ((D, listOf (List.toArray vs') ep') :: g (dictOf [⟨y1, .str "memory" k1, .ref Mi⟩, ⟨y2, .str "places" k2, .ref D⟩, ⟨y3, .str "kept" k3, .ref KD⟩] 3)) → LCg.Off1 D news →
      IntsAre vs' (ps.filter (fun q => q != p)) → Q .none { s with heap := h', toks := tk' }) :
    wpAny (model PySem.Challenge.rw_qd0109_01.row.prog w) (ktrTop dp un gd cn cs L a ccd cl outer) (call (.ref 47) [.ref Pi, .int p t]) Q E s := by
  refine does_use (does_drop w Pi Pd PL KD Mi k1 k2 k3 y1 y2 y3 vs ps epl p t hps hlen r1 r2 r7) B F X N T hk (fun q hq => ?_) hd hu fun r nw new h' tk' hp _ F' N' hn => ?_
  · simp only [List.mem_cons, List.not_mem_nil, or_false] at hq
    rcases hq with rfl | rfl | rfl
    · exact m1
    · exact updF_in U
    · exact m3
  · obtain ⟨D, o', rfl, rfl, rfl, vs', ep', rfl, hi⟩ := hp
    refine ret D vs' ep' h' tk' F' (N' _ fun q hq => ?_) (off1_of fun q hq => hn q hq _ (.head _)) hi
    rcases List.mem_cons.mp hq with rfl | hq
    · exact .inl (.head _)
    rcases updF_mem U hq with rfl | ⟨e1, e2⟩
    · exact .inr (.inl (by simp))
    · refine .inr (.inr ⟨e1, fun z hz => ?_⟩)
      simp only [List.mem_cons, List.not_mem_nil, or_false] at hz
      rcases hz with rfl | rfl | rfl
      · exact .inl (by simp)
      · exact .inr e2
      · exact .inl (by simp)
theorem use_plant {g : Obj → Obj → List (Addr × Obj)}
    (B : Below A₀ base outer h₀) (F : Fr h₀ L s.heap m) (X : (hd.heap_39 w.params).In h₀) (N : News h₀ L s.heap news) (T : Top hd.view_39 (looseW hd.view_39 []) mean mg mb h₀) (hk : cs.kind = .function)
    (m1 : (Pi, instObj 71 Pd) ∈ news) (m2 : (Pd, dictOf [⟨y1, .str "memory" k1, .ref Mi⟩, ⟨y2, .str "places" k2, .ref PL⟩, ⟨y3, .str "kept" k3, .ref KD⟩] 3) ∈ news) (m3 : (PL, (listOf (List.toArray vs) epl : Obj)) ∈ news)
    (m4 : (Mi, instObj 179 Md) ∈ news) (m5 : (Md, dictOf [⟨hh, .str "held" kt, .ref H⟩] 1) ∈ news) (U : UpdF2 H oH KD oK news g)
    (hlo : (H == sysModules) = false) (hlo2 : (KD == sysModules) = false) (hD : DI w oH l) (hK : DI w oK kl) (hM : ∀ p ∈ ps, 256 ≤ p ∧ p < 264 ∧ (getI l p).isSome = true)
    (hps : IntsAre vs ps) (hlen : ps.length ≤ 500) (hl : l.length ≤ 500) (hkl : kl.length ≤ 400) {rk : Nat → Nat} (r1 : Rk rk Pi 1) (r2 : Rk rk Pd 2) (r3 : Rk rk Mi 3) (r4 : Rk rk Md 4) (r5 : Rk rk H 5) (r6 : Rk rk KD 6) (r7 : Rk rk PL 7)
    (hd : dp + 8 < recursionLimit) (hu : un + 80 < cLine)
    (ret : ∀ oH' l' oK' kl' h' tk', Fr h₀ L h' m → News h₀ L h' (g oH' oK') → DI w oH' l' → DI w oK' kl' → l'.length = l.length → (∀ p, getI l' p = plantL (getI l) (getI kl) ps p) → (∀ p, getI kl' p = plantK (getI l) (getI kl) ps p) → Q .none { s with heap := h', toks := tk' }) :
    wpAny (model PySem.Challenge.rw_qd0109_01.row.prog w) (ktrTop dp un gd cn cs L a ccd cl outer) (call (.ref 54) [.ref Pi]) Q E s := by
  refine does_use (does_plant w Pi Pd PL KD Mi k1 k2 k3 y1 y2 y3 Md H kt hh oH l oK kl vs ps epl hlo hlo2 hD hK hM hps hlen hl hkl r1 r2 r3 r4 r5 r6 r7) B F X N T hk (fun q hq => ?_) hd hu fun r nw new h' tk' hp _ F' N' _ => ?_
  · simp only [List.mem_cons, List.not_mem_nil, or_false] at hq
    rcases hq with rfl | rfl | rfl | rfl | rfl | rfl | rfl
    · exact m1
    · exact m2
    · exact m4
    · exact m5
    · exact (updF2_in U).1
    · exact (updF2_in U).2
    · exact m3
  · obtain ⟨rfl, rfl, oH', l', oK', kl', rfl, d1, d2, e1, _, e3, e4⟩ := hp
    refine ret oH' l' oK' kl' h' tk' F' (N' _ fun q hq => ?_) d1 d2 e1 e3 e4
    rcases updF2_mem U hq with rfl | rfl | ⟨e1, e2, e3⟩
    · exact .inr (.inl (by simp))
    · exact .inr (.inl (by simp))
    · refine .inr (.inr ⟨e1, fun z hz => ?_⟩)
      simp only [List.mem_cons, List.not_mem_nil, or_false] at hz
      rcases hz with rfl | rfl | rfl | rfl | rfl | rfl | rfl
      · exact .inl (by simp)
      · exact .inl (by simp)
      · exact .inl (by simp)
      · exact .inl (by simp)
      · exact .inr e2
      · exact .inr e3
      · exact .inl (by simp)
theorem use_lift {g : Obj → Obj → List (Addr × Obj)}
    (B : Below A₀ base outer h₀) (F : Fr h₀ L s.heap m) (X : (hd.heap_39 w.params).In h₀) (N : News h₀ L s.heap news) (T : Top hd.view_39 (looseW hd.view_39 []) mean mg mb h₀) (hk : cs.kind = .function)
    (m1 : (Pi, instObj 71 Pd) ∈ news) (m4 : (Mi, instObj 179 Md) ∈ news) (m5 : (Md, dictOf [⟨hh, .str "held" kt, .ref H⟩] 1) ∈ news) (m6 : (KD, oK) ∈ news)
    (U : UpdF2 H oH Pd (dictOf [⟨y1, .str "memory" k1, .ref Mi⟩, ⟨y2, .str "places" k2, .ref PL⟩, ⟨y3, .str "kept" k3, .ref KD⟩] 3) news g)
    (hlo : (H == sysModules) = false) (hlo2 : (KD == sysModules) = false) (hD : DI w oH l) (hK : DI w oK kl) (hM : ∀ p, (getI kl p).isSome = true → 256 ≤ p ∧ p < 264 ∧ (getI l p).isSome = true)
    (hl : l.length ≤ 500) {rk : Nat → Nat} (r1 : Rk rk Pi 1) (r2 : Rk rk Pd 2) (r3 : Rk rk Mi 3) (r4 : Rk rk Md 4) (r5 : Rk rk H 5) (r6 : Rk rk KD 6)
    (hd : dp + 8 < recursionLimit) (hu : un + 80 < cLine)
    (ret : ∀ KD' oK' oH' l' h' tk', Fr h₀ L h' m → News h₀ L h' ((KD', oK') :: g oH' (dictOf [⟨y1, .str "memory" k1, .ref Mi⟩, ⟨y2, .str "places" k2, .ref PL⟩, ⟨y3, .str "kept" k3, .ref KD'⟩] 3)) → LCg.Off1 KD' news →
      DI w oH' l' → DI w oK' [] → (KD' == sysModules) = false → l'.length = l.length → (∀ p, getI l' p = liftL (getI l) (getI kl) (kl.map (·.1)) p) → Q .none { s with heap := h', toks := tk' }) :
    wpAny (model PySem.Challenge.rw_qd0109_01.row.prog w) (ktrTop dp un gd cn cs L a ccd cl outer) (call (.ref 61) [.ref Pi]) Q E s := by
  refine does_use (does_lift w Pi Pd PL KD Mi k1 k2 k3 y1 y2 y3 Md H kt hh oH l oK kl hlo hlo2 hD hK hM hl r1 r2 r3 r4 r5 r6) B F X N T hk (fun q hq => ?_) hd hu fun r nw new h' tk' hp _ F' N' hn => ?_
  · simp only [List.mem_cons, List.not_mem_nil, or_false] at hq
    rcases hq with rfl | rfl | rfl | rfl | rfl | rfl
    · exact m1
    · exact (updF2_in U).2
    · exact m4
    · exact m5
    · exact (updF2_in U).1
    · exact m6
  · obtain ⟨rfl, KD', oK', oH', l', rfl, rfl, d1, d2, e1, e2, e3⟩ := hp
    refine ret KD' oK' oH' l' h' tk' F' (N' _ fun q hq => ?_) (off1_of fun q hq => hn q hq _ (.head _)) d1 d2 e1 e2 e3
    rcases List.mem_cons.mp hq with rfl | hq
    · exact .inl (.head _)
    rcases updF2_mem U hq with rfl | rfl | ⟨e1, e2, e3⟩
    · exact .inr (.inl (by simp))
    · exact .inr (.inl (by simp))
    · refine .inr (.inr ⟨e1, fun z hz => ?_⟩)
      simp only [List.mem_cons, List.not_mem_nil, or_false] at hz
      rcases hz with rfl | rfl | rfl | rfl | rfl | rfl
      · exact .inl (by simp)
      · exact .inr e3
      · exact .inl (by simp)
      · exact .inl (by simp)
      · exact .inr e2
      · exact .inl (by simp)
theorem use_octets {t1 t2 : Tok}
    (B : Below A₀ base outer h₀) (F : Fr h₀ L s.heap m) (X : (hd.heap_39 w.params).In h₀) (N : News h₀ L s.heap news) (T : Top hd.view_39 (looseW hd.view_39 []) mean mg mb h₀) (hk : cs.kind = .function)
    (m1 : (Pi, instObj 71 Pd) ∈ news) (m2 : (Pd, dictOf [⟨y1, .str "memory" k1, .ref Mi⟩, ⟨y2, .str "places" k2, .ref PL⟩, ⟨y3, .str "kept" k3, .ref KD⟩] 3) ∈ news) (m4 : (Mi, instObj 179 Md) ∈ news) (m5 : (Md, dictOf [⟨hh, .str "held" kt, .ref H⟩] 1) ∈ news) (m6 : (KD, oK) ∈ news) (m7 : (H, oH) ∈ news)
    (hlo : (H == sysModules) = false) (hlo2 : (KD == sysModules) = false) (hD : DI w oH l) (hK : DI w oK kl) (hM : ∀ k : Int, 0 ≤ k → k < 8 → (getI l (256 + k)).isSome = true) (hb : ∀ n ∈ shown (getI l) (getI kl) 8, 0 ≤ n ∧ n < 256)
    (hd : dp + 8 < recursionLimit) (hu : un + 80 < cLine)
    (ret : ∀ h' tk' tb, Fr h₀ L h' m → News h₀ L h' news → Q (.bytes (byteArr (shown (getI l) (getI kl) 8)) tb) { s with heap := h', toks := tk' }) :
    wpAny (model PySem.Challenge.rw_qd0109_01.row.prog w) (ktrTop dp un gd cn cs L a ccd cl outer) (call (.ref 68) [.ref Pi, .int 256 t1, .int 8 t2]) Q E s := by
  refine does_use0 (does_octets w Pi Pd PL KD Mi k1 k2 k3 y1 y2 y3 Md H kt hh oH l oK kl t1 t2 hlo hlo2 hD hK hM hb) (R := fun r => ∃ tb, r = .bytes (byteArr (shown (getI l) (getI kl) 8)) tb) B F X N T hk (fun q hq => ?_) hd hu fun r h' tk' hp F' N' => ?_
  · simp only [List.mem_cons, List.not_mem_nil, or_false] at hq
    rcases hq with rfl | rfl | rfl | rfl | rfl | rfl
    · exact m1
    · exact m2
    · exact m4
    · exact m5
    · exact m7
    · exact m6
  · obtain ⟨tb, rfl⟩ := hp
    exact ret h' tk' tb F' N'
theorem use_octs {M : Int → Int}
    (B : Below A₀ base outer h₀) (F : Fr h₀ L s.heap m) (X : (hd.heap_39 w.params).In h₀) (N : News h₀ L s.heap news) (T : Top hd.view_39 (looseW hd.view_39 []) mean mg mb h₀) (hk : cs.kind = .function)
    (m4 : (Mi, instObj 179 Md) ∈ news) (m5 : (Md, dictOf [⟨hh, .str "held" kt, .ref H⟩] 1) ∈ news) (m7 : (H, oH) ∈ news)
    (hlo : (H == sysModules) = false) (hD : DI w oH l) (hM : ∀ k : Int, 0 ≤ k → k < 8 → getI l (256 + k) = some (M k))
    (hd : dp + 8 < recursionLimit) (hu : un + 80 < cLine)
    (ret : ∀ D vs' ep' h' tk', Fr h₀ L h' m → News h₀ L h' ((D, listOf (List.toArray vs') ep') :: news) → LCg.Off1 D news → IntsAre vs' [M 0, M 1, M 2, M 3, M 4, M 5, M 6, M 7] → Q (.ref D) { s with heap := h', toks := tk' }) :
    wpAny (model PySem.Challenge.rw_qd0109_01.row.prog w) (ktrTop dp un gd cn cs L a ccd cl outer) (call (.ref 209) [.ref Mi]) Q E s := by
  refine does_useN (does_octs w Mi Md H kt hh oH l M hlo hD hM) B F X N T hk (fun q hq => ?_) hd hu fun r D o h' tk' hp F' N' hn => ?_
  · simp only [List.mem_cons, List.not_mem_nil, or_false] at hq
    rcases hq with rfl | rfl | rfl
    · exact m4
    · exact m5
    · exact m7
  · obtain ⟨vs', ep', rfl, rfl, hi⟩ := hp
    exact ret D vs' ep' h' tk' F' N' hn hi
end
/-! the plain law of a deed: no program in sight -/
/-- below at k -/
def bAt (bl : List Int) (k : Int) : Int := bl.getD k.toNat 0
structure Inv (gl gk : Int → Option Int) (bl ps wp wl wo : List Int) : Prop where
  blen : bl.length = 8
  byte : ∀ b ∈ bl, 0 ≤ b ∧ b < 256
  keys : ∀ p, (gk p).isSome = true → 256 ≤ p ∧ p < 264 ∧ (p - 256) ∈ wl
  kin : ∀ k ∈ wl, 0 ≤ k ∧ k < 8 ∧ (gk (256 + k)).isSome = true
  off : ∀ k, 0 ≤ k → k < 8 → k ∉ wl → gl (256 + k) = some (bAt bl k)
  on : ∀ k, k ∈ wl → k ∉ wo → gl (256 + k) = some 204 ∧ gk (256 + k) = some (bAt bl k)
  ov : ∀ k, k ∈ wl → k ∈ wo → gl (256 + k) = some (bAt bl k) ∧ bAt bl k ≠ 204
  pw : ∀ p, p ∈ ps ↔ (p - 256) ∈ wp
  wpr : ∀ k ∈ wp, 0 ≤ k ∧ k < 8
section
variable {gl gk gl' gk' : Int → Option Int} {bl ps wp wl wo : List Int}
theorem Inv.congr (h : Inv gl gk bl ps wp wl wo) (h1 : ∀ p, gl' p = gl p) (h2 : ∀ p, gk' p = gk p) : Inv gl' gk' bl ps wp wl wo := by
  have e1 : gl' = gl := funext h1
  have e2 : gk' = gk := funext h2
  rw [e1, e2]; exact h
theorem Inv.there (h : Inv gl gk bl ps wp wl wo) (k : Int) (h0 : 0 ≤ k) (h1 : k < 8) : (gl (256 + k)).isSome = true := by
  by_cases a : k ∈ wl
  · by_cases b : k ∈ wo
    · rw [(h.ov k a b).1]; rfl
    · rw [(h.on k a b).1]; rfl
  · rw [h.off k h0 h1 a]; rfl
theorem bAt_mem (h : bl.length = 8) {k : Int} (h0 : 0 ≤ k) (h1 : k < 8) : bAt bl k ∈ bl := by
  have hk : k.toNat < bl.length := by omega
  have : bl.getD k.toNat 0 = bl[k.toNat] := by simp [hk]
  unfold bAt; rw [this]
  exact List.getElem_mem hk
theorem eq_of_bAt {a b : List Int} (ha : a.length = 8) (hb : b.length = 8) (h : ∀ k : Int, 0 ≤ k → k < 8 → bAt a k = bAt b k) : a = b := by
  apply List.ext_getElem (by omega)
  intro i h1 h2
  have := h (i : Int) (by omega) (by omega)
  unfold bAt at this
  simpa [h1, h2] using this
theorem shown_at {gl gk : Int → Option Int} {k : Int} (h0 : 0 ≤ k) (h1 : k < 8) : bAt (shown gl gk 8) k = showG gl gk (256 + k) := by
  unfold bAt shown
  have hk : k.toNat < 8 := by omega
  rw [List.getD_eq_getElem?_getD, List.getElem?_map, List.getElem?_range hk]
  simp only [Option.map_some, Option.getD_some]
  rw [Int.toNat_of_nonneg h0]
theorem eight_eq (hb : bl.length = 8) : [bAt bl 0, bAt bl 1, bAt bl 2, bAt bl 3, bAt bl 4, bAt bl 5, bAt bl 6, bAt bl 7] = bl := by
  match bl, hb with
  | [a, b, c, d, e, f, g, h], _ => rfl
/-- what is shown is the memory below -/
theorem Inv.shows (h : Inv gl gk bl ps wp wl wo) : shown gl gk 8 = bl := by
  refine eq_of_bAt (shown_len _ _ _) h.blen fun k h0 h1 => ?_
  rw [shown_at h0 h1]
  unfold showG
  by_cases a : k ∈ wl
  · by_cases b : k ∈ wo
    · obtain ⟨e1, e2⟩ := h.ov k a b
      rw [e1, if_neg (by intro q; exact e2 (Option.some.inj q))]; rfl
    · obtain ⟨e1, e2⟩ := h.on k a b
      rw [e1, if_pos rfl, e2]; rfl
  · have e1 := h.off k h0 h1 a
    rw [e1]
    split
    · rename_i q
      have : gk (256 + k) = none := by
        cases q2 : gk (256 + k) with
        | none => rfl
        | some v =>
          have := (h.keys (256 + k) (by rw [q2]; rfl)).2.2
          rw [show 256 + k - 256 = k by omega] at this
          exact absurd this a
      rw [this]
      exact (Option.some.inj q).symm
    · rfl
/-- what stands in memory is what is due -/
def dueF (bl wl wo : List Int) (k : Int) : Int := if k ∈ wl ∧ k ∉ wo then 204 else bAt bl k
theorem Inv.dues (h : Inv gl gk bl ps wp wl wo) (k : Int) (h0 : 0 ≤ k) (h1 : k < 8) : gl (256 + k) = some (dueF bl wl wo k) := by
  unfold dueF
  by_cases a : k ∈ wl
  · by_cases b : k ∈ wo
    · rw [if_neg (fun q => q.2 b)]; exact (h.ov k a b).1
    · rw [if_pos ⟨a, b⟩]; exact (h.on k a b).1
  · rw [if_neg (fun q => a q.1)]; exact h.off k h0 h1 a
theorem dues_nil (hb : bl.length = 8) : [dueF bl [] [] 0, dueF bl [] [] 1, dueF bl [] [] 2, dueF bl [] [] 3, dueF bl [] [] 4, dueF bl [] [] 5, dueF bl [] [] 6, dueF bl [] [] 7] = bl := by
  have e : ∀ k, dueF bl [] [] k = bAt bl k := fun k => by unfold dueF; rw [if_neg (fun q => nomatch q.1)]
  simp only [e]
  exact eight_eq hb
/-- way 0: a point is put -/
theorem Inv.put (h : Inv gl gk bl ps wp wl wo) {a : Int} (h0 : 0 ≤ a) (h1 : a < 8) :
    Inv gl gk bl (if 256 + a ∈ ps then ps else ps ++ [256 + a]) (wp.filter (fun q => q != a) ++ [a]) wl wo := by
  refine ⟨h.blen, h.byte, h.keys, h.kin, h.off, h.on, h.ov, fun p => ?_, fun k hk => ?_⟩
  · have e := h.pw p
    have key : p ∈ (if 256 + a ∈ ps then ps else ps ++ [256 + a]) ↔ p ∈ ps ∨ p = 256 + a := by
      split
      · rename_i q
        constructor
        · exact .inl
        · rintro (r | rfl)
          · exact r
          · exact q
      · simp
    rw [key, e]
    simp only [List.mem_append, List.mem_filter, List.mem_singleton, bne_iff_ne, ne_eq]
    constructor
    · rintro (r | rfl)
      · by_cases q : p - 256 = a
        · exact .inr q
        · exact .inl ⟨r, q⟩
      · exact .inr (by omega)
    · rintro (r | r)
      · exact .inl r.1
      · exact .inr (by omega)
  · simp only [List.mem_append, List.mem_filter, List.mem_singleton] at hk
    rcases hk with hk | rfl
    · exact h.wpr k hk.1
    · exact ⟨h0, h1⟩
/-- way 1: a point is dropped -/
theorem Inv.drop (h : Inv gl gk bl ps wp wl wo) (a : Int) : Inv gl gk bl (ps.filter (fun q => q != 256 + a)) (wp.filter (fun q => q != a)) wl wo := by
  refine ⟨h.blen, h.byte, h.keys, h.kin, h.off, h.on, h.ov, fun p => ?_, fun k hk => h.wpr k (List.mem_filter.mp hk).1⟩
  have e := h.pw p
  simp only [List.mem_filter, bne_iff_ne, ne_eq, e]
  constructor
  · rintro ⟨r, q⟩; exact ⟨r, by omega⟩
  · rintro ⟨r, q⟩; exact ⟨r, by omega⟩
/-- way 2: planting -/
theorem Inv.plant (h : Inv gl gk bl ps wp wl wo) (h1 : ∀ p, gl' p = plantL gl gk ps p) (h2 : ∀ p, gk' p = plantK gl gk ps p) :
    Inv gl' gk' bl ps wp (wl ++ wp.filter (fun q => !(wl.any fun x => x == q))) (wo.filter (fun q => !(wp.any fun x => x == q))) := by
  have anyIff : ∀ (l : List Int) (q : Int), (l.any fun x => x == q) = true ↔ q ∈ l := fun l q => by
    rw [List.any_eq_true]
    constructor
    · rintro ⟨x, hx, e⟩; exact (beq_iff_eq.mp e) ▸ hx
    · intro hq; exact ⟨q, hq, beq_self_eq_true q⟩
  have mL : ∀ k, k ∈ wl ++ wp.filter (fun q => !(wl.any fun x => x == q)) ↔ k ∈ wl ∨ k ∈ wp := fun k => by
    simp only [List.mem_append, List.mem_filter, Bool.not_eq_true', ← Bool.not_eq_true, anyIff]
    constructor
    · rintro (r | r)
      · exact .inl r
      · exact .inr r.1
    · rintro (r | r)
      · exact .inl r
      · by_cases q : k ∈ wl
        · exact .inl q
        · exact .inr ⟨r, q⟩
  have mO : ∀ k, k ∈ wo.filter (fun q => !(wp.any fun x => x == q)) ↔ k ∈ wo ∧ k ∉ wp := fun k => by
    simp only [List.mem_filter, Bool.not_eq_true', ← Bool.not_eq_true, anyIff]
  have inP : ∀ k, (256 + k ∈ ps ↔ k ∈ wp) := fun k => by
    have := h.pw (256 + k)
    rwa [show 256 + k - 256 = k by omega] at this
  -- a place that is hit now
  have hit : ∀ k, k ∈ wp → (k ∉ wl ∨ k ∈ wo) → (gk (256 + k) = none ∨ gl (256 + k) ≠ some 204) ∧ gl (256 + k) = some (bAt bl k) := fun k hk hc => by
    obtain ⟨r0, r1⟩ := h.wpr k hk
    by_cases a : k ∈ wl
    · have b : k ∈ wo := hc.resolve_left (fun q => q a)
      obtain ⟨e1, e2⟩ := h.ov k a b
      exact ⟨.inr (by rw [e1]; intro q; exact e2 (Option.some.inj q)), e1⟩
    · refine ⟨.inl ?_, h.off k r0 r1 a⟩
      cases q2 : gk (256 + k) with
      | none => rfl
      | some v =>
        have := (h.keys (256 + k) (by rw [q2]; rfl)).2.2
        rw [show 256 + k - 256 = k by omega] at this
        exact absurd this a
  have miss : ∀ k, k ∈ wl → k ∉ wo → ¬ (gk (256 + k) = none ∨ gl (256 + k) ≠ some 204) := fun k a b q => by
    obtain ⟨e1, e2⟩ := h.on k a b
    rcases q with q | q
    · rw [e2] at q; cases q
    · exact q e1
  refine ⟨h.blen, h.byte, fun p hp => ?_, fun k hk => ?_, fun k r0 r1 hk => ?_, fun k hk ho => ?_, fun k hk ho => ?_, h.pw, h.wpr⟩
  · rw [h2 p] at hp
    unfold plantK at hp
    rw [mL]
    split at hp
    · rename_i q
      have := (h.pw p).mp q.1
      have := h.wpr _ this
      exact ⟨by omega, by omega, .inr ((h.pw p).mp q.1)⟩
    · obtain ⟨a, b, c⟩ := h.keys p hp
      exact ⟨a, b, .inl c⟩
  · rw [mL] at hk
    have some_of : 0 ≤ k → k < 8 → k ∈ wl ∨ k ∈ wp → (gk' (256 + k)).isSome = true := fun r0 r1 hk => by
      rw [h2]; unfold plantK
      split
      · exact h.there k r0 r1
      · rename_i q
        by_cases a : k ∈ wl
        · exact (h.kin k a).2.2
        · have b : k ∈ wp := hk.resolve_left a
          exact absurd ⟨(inP k).mpr b, (hit k b (.inl a)).1⟩ q
    rcases hk with hk | hk
    · obtain ⟨r0, r1, _⟩ := h.kin k hk
      exact ⟨r0, r1, some_of r0 r1 (.inl hk)⟩
    · obtain ⟨r0, r1⟩ := h.wpr k hk
      exact ⟨r0, r1, some_of r0 r1 (.inr hk)⟩
  · rw [mL] at hk
    rw [h1]; unfold plantL
    rw [if_neg (fun q => hk (.inr ((inP k).mp q.1)))]
    exact h.off k r0 r1 (fun q => hk (.inl q))
  · rw [mL] at hk
    rw [mO] at ho
    rw [h1, h2]; unfold plantL plantK
    by_cases b : k ∈ wp
    · by_cases c : k ∉ wl ∨ k ∈ wo
      · obtain ⟨e1, e2⟩ := hit k b c
        rw [if_pos ⟨(inP k).mpr b, e1⟩, if_pos ⟨(inP k).mpr b, e1⟩]
        exact ⟨rfl, e2⟩
      · have c1 : k ∈ wl := Classical.not_not.mp fun q => c (.inl q)
        have c2 : k ∉ wo := fun q => c (.inr q)
        rw [if_neg (fun q => miss k c1 c2 q.2), if_neg (fun q => miss k c1 c2 q.2)]
        exact h.on k c1 c2
    · have c1 : k ∈ wl := hk.resolve_right b
      have c2 : k ∉ wo := fun q => ho ⟨q, b⟩
      rw [if_neg (fun q => b ((inP k).mp q.1)), if_neg (fun q => b ((inP k).mp q.1))]
      exact h.on k c1 c2
  · rw [mL] at hk
    rw [mO] at ho
    have c1 : k ∈ wl := hk.resolve_right ho.2
    rw [h1]; unfold plantL
    rw [if_neg (fun q => ho.2 ((inP k).mp q.1))]
    exact h.ov k c1 ho.1
/-- way 3: lifting -/
theorem Inv.lift {ks : List Int} (h : Inv gl gk bl ps wp wl wo) (hks : ∀ p, p ∈ ks ↔ (gk p).isSome = true) (h1 : ∀ p, gl' p = liftL gl gk ks p) (h2 : ∀ p, gk' p = none) : Inv gl' gk' bl ps wp [] [] := by
  refine ⟨h.blen, h.byte, fun p hp => (by rw [h2] at hp; cases hp), (fun k hk => nomatch hk), fun k r0 r1 _ => ?_, (fun k hk => nomatch hk), (fun k hk => nomatch hk), h.pw, h.wpr⟩
  rw [h1]; unfold liftL
  by_cases a : k ∈ wl
  · have inK : 256 + k ∈ ks := (hks _).mpr (h.kin k a).2.2
    by_cases b : k ∈ wo
    · obtain ⟨e1, e2⟩ := h.ov k a b
      rw [if_neg (by rw [e1]; exact fun q => e2 (Option.some.inj q.2))]; exact e1
    · obtain ⟨e1, e2⟩ := h.on k a b
      rw [if_pos ⟨inK, e1⟩]; exact e2
  · have nK : 256 + k ∉ ks := fun q => by
      have := (h.keys _ ((hks _).mp q)).2.2
      rw [show 256 + k - 256 = k by omega] at this
      exact a this
    rw [if_neg (fun q => nK q.1)]; exact h.off k r0 r1 a
/-- way 4: an octet is stored -/
theorem Inv.store (h : Inv gl gk bl ps wp wl wo) {a v : Int} (h0 : 0 ≤ a) (h1 : a < 8) (v0 : 0 ≤ v) (v1 : v < 204) (hl : ∀ p, gl' p = if p = 256 + a then some v else gl p) :
    Inv gl' gk (bl.set a.toNat v) ps wp wl (wo ++ [a]) := by
  have hb : ∀ k, 0 ≤ k → bAt (bl.set a.toNat v) k = if k = a then v else bAt bl k := fun k r0 => by
    unfold bAt
    have ha : a.toNat < bl.length := by rw [h.blen]; omega
    by_cases e : k = a
    · subst e; rw [if_pos rfl]; simp [ha]
    · rw [if_neg e, List.getD_eq_getElem?_getD, List.getElem?_set_ne (by omega), List.getD_eq_getElem?_getD]
  refine ⟨by rw [List.length_set]; exact h.blen, fun b hb' => ?_, h.keys, h.kin, fun k r0 r1 hk => ?_, fun k hk ho => ?_, fun k hk ho => ?_, h.pw, h.wpr⟩
  · rcases List.mem_or_eq_of_mem_set hb' with q | q
    · exact h.byte b q
    · omega
  · rw [hl, hb k r0]
    by_cases e : k = a
    · rw [if_pos (by omega), if_pos e]
    · rw [if_neg (by omega), if_neg e]; exact h.off k r0 r1 hk
  · have e : k ≠ a := fun q => ho (by simp [q])
    have ho' : k ∉ wo := fun q => ho (by simp [q])
    obtain ⟨r0, r1, _⟩ := h.kin k hk
    rw [hl, hb k r0, if_neg (by omega), if_neg e]
    exact h.on k hk ho'
  · obtain ⟨r0, r1, _⟩ := h.kin k hk
    rw [hl, hb k r0]
    by_cases e : k = a
    · rw [if_pos (by omega), if_pos e]; exact ⟨rfl, by omega⟩
    · rw [if_neg (by omega), if_neg e]
      refine h.ov k hk ?_
      simp only [List.mem_append, List.mem_singleton] at ho
      exact ho.resolve_right e
/-- the start -/
theorem Inv.start (hb : bl.length = 8) (hy : ∀ b ∈ bl, 0 ≤ b ∧ b < 256) (hl : ∀ k, 0 ≤ k → k < 8 → gl (256 + k) = some (bAt bl k)) (hk : ∀ p, gk p = none) : Inv gl gk bl [] [] [] [] :=
  ⟨hb, hy, fun p hp => (by rw [hk] at hp; cases hp), (fun k hk => nomatch hk), fun k r0 r1 _ => hl k r0 r1, (fun k hk => nomatch hk), (fun k hk => nomatch hk), fun p => by simp, (fun k hk => nomatch hk)⟩
end
noncomputable def fnAt (w : World) (f : Addr) : FuncData := match (hd.heap_39 w.params).lookup f with
  | some ⟨_, _, .func d, _⟩ => d
  | _ => default
noncomputable def bodyAt (w : World) (f : Addr) : List Stmt := match (fnAt w f).body with
  | .stmts b => b
  | _ => []
theorem off1_all {D : Addr} {l : List (Addr × Obj)} (h : ∀ p ∈ l, p.1 < D) : LCg.Off1 D l := off1_of fun q hq => Nat.ne_of_lt (h q hq)
theorem rk_cons {a : Nat} {l : List Nat} (h : (a :: l).Nodup) : a ∉ l ∧ l.Nodup := List.nodup_cons.mp h
/-- the rank of a list without doubles -/
def rkL : List Nat → Nat → Nat
  | [], _ => 0
  | x :: r, a => if a = x then 0 else rkL r a + 1
theorem rkL_at : ∀ {l : List Nat}, l.Nodup → ∀ {i a}, l[i]? = some a → rkL l a = i
  | [], _, _, _, h => by cases h
  | x :: r, hn, i, a, h => by
    obtain ⟨h1, h2⟩ := List.nodup_cons.mp hn
    cases i with
    | zero =>
      rw [List.getElem?_cons_zero] at h
      rw [rkL, if_pos (Option.some.inj h).symm]
    | succ i =>
      rw [List.getElem?_cons_succ] at h
      have : a ≠ x := fun e => h1 (e ▸ List.mem_of_getElem? h)
      rw [rkL, if_neg this, rkL_at h2 h]
theorem rk_at {l : List Nat} (hn : l.Nodup) (i : Nat) {a : Nat} (h : l[i]? = some a) : Rk (rkL l) a i := rkL_at hn h
/-- the rank with three cells above -/
def rk3 (rk : Nat → Nat) (L a : Nat) : Nat := if a ≤ L then rk a else 12 + (a - L)
theorem rk_low {rk : Nat → Nat} {L a i : Nat} (h : Rk rk a i) (ha : a < L) : Rk (rk3 rk L) a i := by
  unfold Rk rk3; rw [if_pos (Nat.le_of_lt ha)]; exact h
theorem rk_high {rk : Nat → Nat} {L : Nat} (k : Nat) : Rk (rk3 rk L) (L + (k + 1)) (12 + (k + 1)) := by
  unfold Rk rk3; rw [if_neg (by omega)]; omega
/-- the law's world between two deeds, n deeds done: its ledger is led -/
def Wd (w : World) (Pn Pi Pd Mi Md H Bw W : Addr) (k1 k2 k3 kt : Tok) (y1 y2 y3 hh : Int) (n : Nat) (led : List (Addr × Obj)) : Prop :=
  ∃ (KD PL WP WL WO : Addr) (st sd ct : Int) (t1 t2 t3 : Tok) (ep epl epb e1 e2 e3 : Nat) (oH oK oW : Obj) (l kl : List (Int × Int)) (vs bs vp vl vo : List Value) (ps bl wp wl wo : List Int), led = [(Pn, listOf #[.int st t1, .int sd t2, .int ct t3] ep), (Pi, instObj 71 Pd), (Pd, dictOf [⟨y1, .str "memory" k1, .ref Mi⟩, ⟨y2, .str "places" k2, .ref PL⟩, ⟨y3, .str "kept" k3, .ref KD⟩] 3), (Mi, instObj 179 Md), (Md, dictOf [⟨hh, .str "held" kt, .ref H⟩] 1), (H, oH), (KD, oK), (PL, listOf (List.toArray vs) epl), (Bw, listOf (List.toArray bs) epb), (W, oW), (WP, listOf (List.toArray vp) e1), (WL, listOf (List.toArray vl) e2), (WO, listOf (List.toArray vo) e3)] ∧ ([Pn, Pi, Pd, Mi, Md, H, KD, PL, Bw, W, WP, WL, WO] : List Nat).Nodup ∧ 0 ≤ st ∧ 0 ≤ sd ∧ sd < 2147483647 ∧ 0 ≤ ct ∧ ct ≤ 8 + 3 * (n : Int) ∧ (KD == sysModules) = false ∧ DI w oH l ∧ DI w oK kl ∧ WI w oW WP WL WO ∧ Inv (getI l) (getI kl) bl ps wp wl wo ∧ l.length ≤ 500 ∧ ps.length ≤ n ∧ wp.length ≤ n ∧ wl.length ≤ 12 * n ∧ wo.length ≤ n ∧ IntsAre vs ps ∧ IntsAre bs bl ∧ IntsAre vp wp ∧ IntsAre vl wl ∧ IntsAre vo wo
open PySem PySem.W PyProof.Rows PySem.Calls
set_option maxRecDepth 100000
section
variable {prog : Program} {w : World} {A : Around} {E : Value → Shared → Prop} {s : Shared} {b : Array UInt8} {t : Tok}
theorem hint_bytes {Q : Bool → Shared → Prop} (h : Q false s) : wpAny (model prog w) A (Builtin.List.listLengthHint (.bytes b t)) Q E s := by
  have hT := typeIs_bytes s b t
  unfold Builtin.List.listLengthHint
  refine wpAny_bind (wpAny_specialOf hT FB.slot_bytes_len.lookup ?_)
  generalize hid : ("bytes.__len__" : String) = id0
  wp_delta
  rw [show splitId id0 = some ("bytes", "__len__") from by subst hid; decide +kernel]
  subst hid
  refine wpAny_bind (wpAny_isInstance (T := "bytes") (b := true) hT (by rw [isSubtype_type]; kernel_rfl) ?_)
  refine wpAny_ite_split (fun hab => absurd hab (by decide)) (fun _ => ?_)
  refine wpAny_ite_split (fun _ => ?_) (fun hab => absurd (by decide +kernel) hab)
  refine wpAny_bind (wpAny_typeOf hT ?_)
  exact wpAny_pure h
theorem extend_bytes {R : Result → Shared → Prop} (hh : A.handled = none) (S : Addr) (res : Value) (c₀ : Nat) (hS : s.heap.get? S = some { cls := .type "list", data := .seq #[] c₀ })
    (hR : ∀ h' tk acc' c', (∀ b o, b ≠ S → s.heap.get? b = some o → h'.get? b = some o) → h'.get? S = some { cls := .type "list", dict := none, data := .seq acc' c', slots := #[] } → ItemsOf (fun i v => ∃ c u, b[i]? = some c ∧ v = .int (c.toNat : Int) u) acc' b.size → R (.ok (.ret res)) { s with heap := h', toks := tk }) (hn : b.size ≤ sizeLine) :
    wpAny (model prog w) A.in1 (Builtin.List.listExtendWith (.ref S) (.bytes b t) res)
      (fun fin s' => match fin with | .done f => R (.ok f) s' | .again c' => c'.quiet = true ∧ codeAny (model prog w) A c' R s') (fun e s' => R (.error e) s') s := by
  have hSI : S ≠ s.heap.objs.size := Nat.ne_of_lt (Heap.lt_size hS)
  have hSf : S ∉ [s.heap.objs.size] := by simpa using hSI
  have W := KBw.walks (prog := prog) (w := w) (A := A) hh s.heap.objs.size b t
  have key : ∀ (h : Heap) (c₁ tk : Nat), KBw.IsBytesIter h s.heap.objs.size b t 0 → (∀ b o, b ≠ S → s.heap.get? b = some o → h.get? b = some o) →
      h.get? S = some { cls := .type "list", data := .seq #[] c₁ } → codeAny (model prog w) A (.builtin "list.extend.loop" ⟨[.ref S, .ref s.heap.objs.size, res], []⟩) R { s with heap := h, toks := tk } := by
    intro h c₁ tk hst hk hS₁
    refine codeAny_extend_loopS (KBw.walks (A := A.in1) hh s.heap.objs.size b t).toS hn S hSf res b.size 0 _ #[] c₁ rfl (Nat.zero_le _) hst hS₁ (ItemsOf.nil _) fun s' acc' c' hm hS' hacc => ?_
    rw [Moved.eq_with hm]
    refine hR s'.heap s'.toks acc' c' (fun b o hb e => hm.heap b o (fun hmem => ?_) (hk b o hb e)) hS' hacc
    rcases List.mem_cons.mp hmem with e' | hmem
    · exact hb e'
    · exact absurd (Heap.lt_size e) (by rw [List.mem_singleton.mp hmem]; exact Nat.lt_irrefl _)
  unfold Builtin.List.listExtendWith
  refine wpAny_bind (wpAny_typeOf (T := "bytes") (typeIs_bytes s b t) ?_)
  have h1 : Builtin.List.listSameRef (.ref S) (.bytes b t) = false := rfl
  simp only [h1, show (Value.type "bytes" == Value.type "list") = false from by decide, show (Value.type "bytes" == Value.type "tuple") = false from by decide, Bool.or_false, Bool.false_eq_true, if_false]
  refine wpAny_bind (KBw.pyIter_bytes ?_)
  have hS₁ := Heap.get?_push_of_some { cls := .type "bytes_iterator", data := .fields #[.bytes b t, .int 0 0] } hS
  have st : KBw.IsBytesIter (s.heap.push { cls := .type "bytes_iterator", data := .fields #[.bytes b t, .int 0 0] }) s.heap.objs.size b t 0 := ⟨_, Heap.get?_push_size _ rfl, rfl, rfl⟩
  refine wpAny_bind (wpAny_holding (hint_bytes ?_))
  refine wpAny_ite_split (fun _ => ?_) (fun _ => wpAny_pure ⟨plainId_quiet PySem.F.plain_extend_loop _, key _ c₀ _ st (fun b o _ e => Heap.get?_push_of_some _ e) hS₁⟩)
  refine wpAny_bind (wpAny_rule ?_)
  refine wpAny_bind ?_
  show wpAny _ _ (updateSeq S (·.push .none) >>= fun _ => updateSeq S (·.pop)) _ _ _
  refine wpAny_bind (wpAny_updateSeq hS₁ rfl ?_)
  have hS₂ := Heap.get?_update_self (Obj.mapSeq (·.push Value.none)) hS₁ rfl
  refine wpAny_updateSeq (hz := by seq_fits) hS₂ rfl ?_
  have hS₃ := Heap.get?_update_self (Obj.mapSeq (·.pop)) hS₂ rfl
  refine wpAny_pure ⟨plainId_quiet PySem.F.plain_extend_loop _, key _ _ _ ?_ (fun b o hb e => ?_) hS₃⟩
  · refine W.frame 0 _ _ st fun b hb o e => ?_
    have hbS : b ≠ S := fun h => hSf (h ▸ hb)
    exact (Heap.get?_update_other _ _ (Ne.symm hbS)).trans ((Heap.get?_update_other _ _ (Ne.symm hbS)).trans e)
  · exact (Heap.get?_update_other _ _ (Ne.symm hb)).trans ((Heap.get?_update_other _ _ (Ne.symm hb)).trans (Heap.get?_push_of_some _ e))
theorem init_bytes {R : Result → Shared → Prop} (hh : A.handled = none) (S : Addr) (hS : s.heap.get? S = some { cls := .type "list", data := .seq #[] })
    (hR : ∀ h' tk acc' c', (∀ b o, b ≠ S → s.heap.get? b = some o → h'.get? b = some o) → h'.get? S = some { cls := .type "list", dict := none, data := .seq acc' c', slots := #[] } → ItemsOf (fun i v => ∃ c u, b[i]? = some c ∧ v = .int (c.toNat : Int) u) acc' b.size → R (.ok (.ret .none)) { s with heap := h', toks := tk }) (hn : b.size ≤ sizeLine) :
    wpAny (model prog w) A.in1 (Builtin.«list.__init__» ⟨[.ref S, .bytes b t], []⟩)
      (fun fin s' => match fin with | .done f => R (.ok f) s' | .again c' => c'.quiet = true ∧ codeAny (model prog w) A c' R s') (fun e s' => R (.error e) s') s := by
  show wpAny _ _ (do let old ← Builtin.List.listItems (.ref S); Builtin.List.listUpdate (.ref S) (fun _ => #[]); letGo old.toList.reverse; Builtin.List.listExtendWith (.ref S) (.bytes b t) .none) _ _ s
  refine wpAny_bind ?_
  unfold Builtin.List.listItems
  refine wpAny_bind (wpAny_seqItems hS rfl (wpAny_pure ?_))
  show wpAny _ _ (updateSeq S (fun _ => #[]) >>= fun _ => letGo (#[] : Array Value).toList.reverse >>= fun _ => Builtin.List.listExtendWith (.ref S) (.bytes b t) .none) _ _ s
  refine wpAny_bind (wpAny_updateSeq hS rfl ?_)
  have hS₂ := Heap.get?_update_self (Obj.mapSeq (fun _ => (#[] : Array Value))) hS rfl
  have oth : ∀ b o, b ≠ S → s.heap.get? b = some o → (s.heap.update S (Obj.mapSeq (fun _ => (#[] : Array Value)))).get? b = some o :=
    fun b o hb e => (Heap.get?_update_other _ _ (Ne.symm hb)).trans e
  refine wpAny_bind (wpAny_letGo ?_)
  refine extend_bytes hh S .none _ hS₂ (fun h' tk acc' c' hk hS' hacc => ?_) hn
  exact hR h' tk acc' c' (fun b o hb e => hk b o hb (oth b o hb e)) hS' hacc
theorem ints_of_items {ks : List Int} : ∀ {vs : List Value}, vs.length = ks.length → (∀ (j : Nat) (v : Value), vs[j]? = some v → ∃ (u : Tok) (k : Int), ks[j]? = some k ∧ v = Value.int k u) → IntsAre vs ks := by
  induction ks with
  | nil =>
    intro vs hl _
    cases vs with
    | nil => exact .nil
    | cons _ _ => cases hl
  | cons k r ih =>
    intro vs hl h
    cases vs with
    | nil => cases hl
    | cons v vs =>
      obtain ⟨u, k', e, rfl⟩ := h 0 v rfl
      rw [List.getElem?_cons_zero] at e
      cases e
      exact .cons _ _ (ih (by simpa using hl) fun j v hv => by simpa using h (j + 1) v (by simpa using hv))
theorem list_bytes {h₀ : Heap} {L : Addr} {m : Str → Option Value} {news : List (Addr × Obj)} {Q : Value → Shared → Prop} (hh : A.handled = none) (F : Fr h₀ L s.heap m) (N : News h₀ L s.heap news) (hn : b.size ≤ sizeLine)
    (h : ∀ (D : Addr) c h' tk (vs : List Value), Fr h₀ L h' m → News h₀ L h' ((D, listOf (List.toArray vs) c) :: news) → LCg.Off1 D news → IntsAre vs (KBw.bInts b) → Q (.ref D) { s with heap := h', toks := tk }) :
    wpAny (model prog w) A (call (.type "list") [.bytes b t]) Q E s := by
  refine callType_codes (Q₁ := fun obj s₁ => obj = .ref s.heap.objs.size ∧ s₁ = { s with heap := s.heap.push { cls := .type "list", data := .seq #[] } }) PySem.F.called_list (PySem.F.typeCall_list_1 _) PySem.F.entry_list_init
    (code_list_new _ ⟨rfl, rfl⟩) fun obj s₁ h₁ => ?_
  obtain ⟨rfl, rfl⟩ := h₁
  have hS : (s.heap.push { cls := .type "list", data := .seq #[] }).get? s.heap.objs.size = some { cls := .type "list", data := .seq #[] } := Heap.get?_push_size _ rfl
  refine ⟨⟨_, hS, rfl⟩, PySem.F.args_list_init_2 _ _, init_bytes (A := A.in1) hh _ hS (fun h' tk acc' c' hk hS' hacc => ?_) hn⟩
  have hk' : ∀ b o, s.heap.get? b = some o → h'.get? b = some o := fun b o e => hk b o (Nat.ne_of_lt (Heap.lt_size e)) (Heap.get?_push_of_some _ e)
  refine ⟨rfl, h _ c' h' tk acc'.toList (F.keeps hk') (news_pushed F N hk' (by first | (rw [Array.toArray_toList]; exact hS') | simpa using hS') rfl) (off1_all fun q hq => Heap.lt_size (N q hq).1) ?_⟩
  refine ints_of_items (by rw [Array.length_toList, hacc.1, KBw.ints_length]) fun j v hv => ?_
  obtain ⟨c, u, e1, e2⟩ := hacc.2 j v (by rw [← Array.getElem?_toList]; exact hv)
  exact ⟨u, _, KBw.ints_get e1, e2⟩
end
theorem bints_back {ks : List Int} (h : ∀ n ∈ ks, 0 ≤ n ∧ n < 256) : KBw.bInts (byteArr ks) = ks := by
  show (byteArr ks).toList.map (fun c => (c.toNat : Int)) = ks
  unfold byteArr
  rw [List.map_map]
  induction ks with
  | nil => rfl
  | cons k r ih =>
    rw [List.map_cons, ih fun n hn => h n (.tail _ hn)]
    congr 1
    exact byte_back (h k (.head _)).1 (h k (.head _)).2
section
variable {prog : Program} {w : World} {A : Around} {E : Value → Shared → Prop} {s : Shared} {h₀ : Heap} {L l : Addr} {m : Str → Option Value} {news : List (Addr × Obj)} {vs : List Value} {ns : List Int} {c : Nat} {k : Int} {t : Tok}
theorem item_L {value slice : PySem.Expr} {Q : Value → Shared → Prop} (N : News h₀ L s.heap news) (hm : (l, listOf (List.toArray vs) c) ∈ news) (hi : IntsAre vs ns) (h0 : 0 ≤ k) (h1 : k < (ns.length : Int)) (h2 : ns.length ≤ 1000) (h : ∀ t', Q (.int (bAt ns k) t') s)
    (hs : subscripted slice false (.ref l) (.int k t) = operate [.ref l, .int k t] (getItem (.ref l) (.int k t)) := by with_unfolding_all rfl) :
    wpAny (model prog w) A (subscriptTail value slice (.ref l) (.int k t)) Q E s := by
  have hk : k.toNat < ns.length := by omega
  obtain ⟨t', e⟩ := hi.get k.toNat (bAt ns k) (by unfold bAt; simp [hk])
  exact item_litK (N.isList hm) h0 (by omega) e (h t') hs
theorem ints_set {v : Int} {t : Tok} : ∀ {vs : List Value} {ns : List Int}, IntsAre vs ns → ∀ i : Nat, IntsAre (vs.set i (.int v t)) (ns.set i v)
  | _, _, .nil, _ => .nil
  | _, _, .cons _ _ h, 0 => .cons _ _ h
  | _, _, .cons _ _ h, i + 1 => .cons _ _ (ints_set h i)
end
section
variable {w : World} {A : Around} {E : Value → Shared → Prop} {s : Shared} {h₀ : Heap} {L a b : Addr} {news : List (Addr × Obj)} {oa ob : Obj} {Q : Value → Shared → Prop}
theorem DI.nil {o : Obj} (h1 : o.IsDictOf (intKind PySem.Challenge.rw_qd0109_01.row.prog w) []) (h2 : PyProof.V.FlatPairs PyData.int [] []) : DI w o [] := ⟨_, h1, h2⟩
theorem ne_DI0 (N : News h₀ L s.heap news) (ma : (a, oa) ∈ news) (mb : (b, ob) ∈ news) (la : (a == sysModules) = false) (lb : (b == sysModules) = false) (da : DI w oa []) (db : DI w ob []) (hu : A.units < cLine) (h : Q (.bool false) s) :
    wpAny (model PySem.Challenge.rw_qd0109_01.row.prog w) A (compareOp .NotEq (.ref a) (.ref b)) Q E s :=
  kne_tabs (r := true) PyProof.V.same_int (tab_DI N ma la da) (tab_DI N mb lb db) rfl hu KeqRows.nil h
theorem eq_DI0 (N : News h₀ L s.heap news) (ma : (a, oa) ∈ news) (mb : (b, ob) ∈ news) (la : (a == sysModules) = false) (lb : (b == sysModules) = false) (da : DI w oa []) (db : DI w ob []) (hu : A.units < cLine) (h : Q (.bool true) s) :
    wpAny (model PySem.Challenge.rw_qd0109_01.row.prog w) A (compareOp .Eq (.ref a) (.ref b)) Q E s :=
  keq_tabs (r := true) PyProof.V.same_int (tab_DI N ma la da) (tab_DI N mb lb db) rfl hu KeqRows.nil h
end
theorem any_mem {l : List Int} {k : Int} (h : (l.any fun x => x == k) = true) : k ∈ l := mem_of_any h
theorem any_nmem {l : List Int} {k : Int} (h : (l.any fun x => x == k) = false) : k ∉ l := not_mem_of_any h
theorem due_a {bl wl wo : List Int} {k : Int} (_ : (wl.any fun x => x == k) = true) (h2 : (wo.any fun x => x == k) = true) : bAt bl k = dueF bl wl wo k := by
  unfold dueF; rw [if_neg (fun q => q.2 (any_mem h2))]
theorem due_b {bl wl wo : List Int} {k : Int} (h1 : (wl.any fun x => x == k) = true) (h2 : (wo.any fun x => x == k) = false) : 204 = dueF bl wl wo k := by
  unfold dueF; rw [if_pos ⟨any_mem h1, any_nmem h2⟩]
theorem due_c {bl wl wo : List Int} {k : Int} (h1 : (wl.any fun x => x == k) = false) : bAt bl k = dueF bl wl wo k := by
  unfold dueF; rw [if_neg (fun q => any_nmem h1 q.1)]
theorem off_nil {rest : List (Addr × Obj)} : OwnOff rest [] := fun _ _ _ hb => nomatch hb
theorem off_cons {rest : List (Addr × Obj)} {a : Addr} {l : List Addr} (h : ∀ p ∈ rest, p.1 ≠ a) (h2 : OwnOff rest l) : OwnOff rest (a :: l) := fun p hp b hb => by
  rcases List.mem_cons.mp hb with rfl | hb
  · exact h p hp
  · exact h2 p hp b hb
theorem off1_rest {D : Addr} {news rest : List (Addr × Obj)} (h : LCg.Off1 D news) (hs : ∀ p ∈ rest, p ∈ news) : ∀ p ∈ rest, p.1 ≠ D := fun p hp => off1_mem h p (hs p hp)
theorem deed_pack {w : World} {Pn Pi Pd Mi Md H Bw W : Addr} {k1 k2 k3 kt : Tok} {y1 y2 y3 hh : Int} {KD PL WP WL WO : Addr} {st sd ct : Int} {t1 t2 t3 : Tok} {ep epl epb e1 e2 e3 : Nat} {oH oK oW : Obj} {l kl : List (Int × Int)} {vs bs vp vl vo : List Value} {ps bl wp wl wo : List Int} {n : Nat} {g h' : Heap} {L : Addr} {all rest cells : List (Addr × Obj)} {P : Prop}
    (N : News g L h' all) (m2 : (Pd, dictOf [⟨y1, .str "memory" k1, .ref Mi⟩, ⟨y2, .str "places" k2, .ref PL⟩, ⟨y3, .str "kept" k3, .ref KD⟩] 3) ∈ all) (m9 : (W, oW) ∈ all) (hW : WI w oW WP WL WO) (m0 : (Pn, (listOf #[.int st t1, .int sd t2, .int ct t3] ep : Obj)) ∈ all) (m1 : (Pi, instObj 71 Pd) ∈ all) (m3 : (Mi, instObj 179 Md) ∈ all) (m4 : (Md, dictOf [⟨hh, .str "held" kt, .ref H⟩] 1) ∈ all) (m5 : (H, oH) ∈ all) (m6 : (KD, oK) ∈ all) (m7 : (PL, (listOf (List.toArray vs) epl : Obj)) ∈ all) (m8 : (Bw, (listOf (List.toArray bs) epb : Obj)) ∈ all) (m10 : (WP, (listOf (List.toArray vp) e1 : Obj)) ∈ all) (m11 : (WL, (listOf (List.toArray vl) e2 : Obj)) ∈ all) (m12 : (WO, (listOf (List.toArray vo) e3 : Obj)) ∈ all) (hr : ∀ p ∈ rest, p ∈ all)
    (hD : DI w oH l) (hK : DI w oK kl) (hlo2 : (KD == sysModules) = false) (i1 : IntsAre vs ps) (i2 : IntsAre bs bl) (i3 : IntsAre vp wp) (i4 : IntsAre vl wl) (i5 : IntsAre vo wo) (hI : Inv (getI l) (getI kl) bl ps wp wl wo)
    (b1 : 0 ≤ st) (b2 : 0 ≤ sd) (b3 : sd < 2147483647) (b4 : 0 ≤ ct) (b5 : ct ≤ 8 + 3 * (((n + 1 : Nat)) : Int)) (b6 : l.length ≤ 500) (b7 : ps.length ≤ n + 1) (b8 : wp.length ≤ n + 1) (b9 : wl.length ≤ 12 * (n + 1)) (b10 : wo.length ≤ n + 1)
    (hnd : ([Pn, Pi, Pd, Mi, Md, H, KD, PL, Bw, W, WP, WL, WO] : List Nat).Nodup) (hoff : OwnOff rest [Pn, Pi, Pd, Mi, Md, H, KD, PL, Bw, W, WP, WL, WO]) (hc : ∀ p ∈ cells, p ∈ all)
    (next : ∀ led, Wd w Pn Pi Pd Mi Md H Bw W k1 k2 k3 kt y1 y2 y3 hh (n + 1) led → News g L h' (cells ++ (led ++ rest)) → OwnOff rest (led.map (·.1)) → P) : P := by
  refine next [(Pn, listOf #[.int st t1, .int sd t2, .int ct t3] ep), (Pi, instObj 71 Pd), (Pd, dictOf [⟨y1, .str "memory" k1, .ref Mi⟩, ⟨y2, .str "places" k2, .ref PL⟩, ⟨y3, .str "kept" k3, .ref KD⟩] 3), (Mi, instObj 179 Md), (Md, dictOf [⟨hh, .str "held" kt, .ref H⟩] 1), (H, oH), (KD, oK), (PL, listOf (List.toArray vs) epl), (Bw, listOf (List.toArray bs) epb), (W, oW), (WP, listOf (List.toArray vp) e1), (WL, listOf (List.toArray vl) e2), (WO, listOf (List.toArray vo) e3)] ⟨KD, PL, WP, WL, WO, st, sd, ct, t1, t2, t3, ep, epl, epb, e1, e2, e3, oH, oK, oW, l, kl, vs, bs, vp, vl, vo, ps, bl, wp, wl, wo, rfl, hnd, b1, b2, b3, b4, b5, hlo2, hD, hK, hW, hI, b6, b7, b8, b9, b10, i1, i2, i3, i4, i5⟩ (fun p hp => N p ?_) hoff
  rcases List.mem_append.mp hp with h | h
  · exact hc p h
  rcases List.mem_append.mp h with h | h
  · simp only [List.mem_cons, List.not_mem_nil, or_false] at h
    rcases h with rfl | rfl | rfl | rfl | rfl | rfl | rfl | rfl | rfl | rfl | rfl | rfl | rfl <;> assumption
  · exact hr p h
end Mine
namespace Mine
local macro_rules | `(tactic| k_room) => `(tactic| ktr_room)
local macro_rules | `(tactic| k_units) => `(tactic| ktr_units)
local macro_rules | `(tactic| k_ne) => `(tactic| first | (refine neN ?_; (try dsimp only); exact ne_rk (by assumption) (by assumption) (by decide)) | (refine neN ?_; (try dsimp only); omega))
local macro_rules | `(tactic| k_ne) => `(tactic| first | (refine neN ?_; (try dsimp only); exact ne_rk (by assumption) (by assumption) (by decide)) | (refine neN ?_; (try dsimp only); exact off1_ne (by assumption) (by k_mem)) | (refine neN ?_; (try dsimp only); exact off1_ne' (by assumption) (by k_mem)) | (refine neN ?_; (try dsimp only); omega))
local macro_rules | `(tactic| walk_at "call ref") => `(tactic| (k_here; (with_reducible show wpAny _ _ (call (Value.ref 110) _ _) _ _ _); (k_dflt (refine' does_use0 (does_octet _ _ _ _ _ _ _ _ _ _ _ ?lo ?hD ?p0 ?p1 ?hv) ?kB ?kF ?kX ?kN ?kT ?kk ?ks ?kd ?ku ?_; (case kB => k_asm); (case kF => k_asm); (case kX => k_asm); (case kN => k_asm); (case kT => k_asm); (case kk => first | exact rfl | assumption); (case ks => (refine List.forall_mem_cons.mpr ⟨by k_mem, ?_⟩; refine List.forall_mem_cons.mpr ⟨by k_mem, ?_⟩; refine List.forall_mem_cons.mpr ⟨by k_mem, ?_⟩; exact List.forall_mem_nil _)); (case lo => assumption); (case hD => assumption); (case p0 => omega); (case p1 => omega); (case hv => first | assumption | ((rename ∀ k : Int, 0 ≤ k → k < 8 → getI _ (256 + k) = some _ => hM9); exact hM9 _ (by omega) (by omega))); (case kd => ktr_room); (case ku => ktr_units); intro r9 h9 tk9 ho9 F' N'; (obtain ⟨t9, e9⟩ := ho9; subst e9); (try dsimp only); (try k_sweep)))))
local macro_rules | `(tactic| walk_at "compareOp NotIn int ref") => `(tactic| (k_here; k_dflt (refine' notin_DI ?N ?m ?o ?D ?_; (case N => k_asm); (case m => k_mem); (case o => assumption); (case D => assumption))))
local macro_rules | `(tactic| walk_at "compareOp NotIn int ref") => `(tactic| (k_here; k_dflt (refine' notin_list_ints ?l ?i ?_; (case l => exact News.isList (by k_asm) (by k_mem)); (case i => assumption))))
local macro_rules | `(tactic| walk_at "setItem ref int") => `(tactic| (k_here; k_dflt (refine' set_DI ?F ?N ?U ?D ?z ?_; (case F => k_asm); (case N => k_asm); (case U => k_updF); (case D => assumption); (case z => omega); intro h' o' F' N' D'; (try dsimp only at N'); (try k_sweep))))
local macro_rules | `(tactic| walk_at "getMethod ref") => `(tactic| (k_here; k_dflt (refine' getMethod_tab_any (knd := intKind _ _) (enc := PyData.int) ?k1 (tab_DI ?N ?m ?o ?D) ?_; (case k1 => exact rfl); (case N => k_asm); (case m => k_mem); (case o => assumption); (case D => assumption); k_whole)))
local macro_rules | `(tactic| walk_at "call builtin:dict.get") => `(tactic| (k_here; k_dflt (refine' get2_DI ?N ?m ?o ?D ?_; (case N => k_asm); (case m => k_mem); (case o => assumption); (case D => assumption); intro t')))
local macro_rules | `(tactic| walk_at "call ref") => `(tactic| (k_here; (with_reducible show wpAny _ _ (call (Value.ref 68) _ _) _ _ _); (k_dflt (refine' use_octets ?kB ?kF ?kX ?kN ?kT ?kk ?m1 ?m2 ?m4 ?m5 ?m6 ?m7 ?lo ?lo2 ?hD ?hK ?hM ?hb ?kd ?ku ?_; (case kB => k_asm); (case kF => k_asm); (case kX => k_asm); (case kN => k_asm); (case kT => k_asm); (case kk => first | exact rfl | assumption); (case m1 => k_mem); (case m2 => k_mem); (case m4 => k_mem); (case m5 => k_mem); (case m6 => k_mem); (case m7 => k_mem); (case lo => assumption); (case lo2 => assumption); (case hD => assumption); (case hK => assumption); (case hM => assumption); (case hb => assumption); (case kd => ktr_room); (case ku => ktr_units); intro h9 tk9 tb9 F' N'; (try dsimp only at N'); (try k_sweep)))))
local macro_rules | `(tactic| walk_at "call ref") => `(tactic| (k_here; (with_reducible show wpAny _ _ (call (Value.ref 209) _ _) _ _ _); (k_dflt (refine' use_octs ?kB ?kF ?kX ?kN ?kT ?kk ?m4 ?m5 ?m7 ?lo ?hD ?hM ?kd ?ku ?_; (case kB => k_asm); (case kF => k_asm); (case kX => k_asm); (case kN => k_asm); (case kT => k_asm); (case kk => first | exact rfl | assumption); (case m4 => k_mem); (case m5 => k_mem); (case m7 => k_mem); (case lo => assumption); (case hD => assumption); (case hM => assumption); (case kd => ktr_room); (case ku => ktr_units); intro D9 vs9 ep9 h9 tk9 F' N' n9 i9; (try dsimp only at N'); (try k_sweep)))))
local macro_rules | `(tactic| walk_at "eval ListComp") => `(tactic| (k_here; k_dflt (refine LCt.ListComp_T (F₀ := by k_asm) (by with_unfolding_all rfl) (by decide) (by rfl) (by decide) (by rfl) ?_); k_dflt lct_toSrc))
local macro_rules | `(tactic| walk_at "CompSrcT") => `(tactic| (k_here; refine Halt.mk ?_))
local macro_rules | `(tactic| walk_at "CompSrc") => `(tactic| (k_here; refine Halt.mk ?_))
local macro_rules | `(tactic| walk_at "exec For Name Call cons nil") => `(tactic| (k_here; (rename Fr _ _ _ _ => lF'); (with_unfolding_all refine' For_invVF lF' ?k1 ?k2 ?_; (case k1 => exact rfl); (case k2 => exact rfl); k_whole)))
local macro_rules | `(tactic| walk_at "pyIter ref") => `(tactic| ((with_reducible show wpAny _ _ (pyIter (Value.ref _)) (fun it s₂ => LoopAtV _ _ _ _ _ _ _ _ _ it s₂) _ _); refine Halt.mk ?_))
local macro_rules | `(tactic| walk_at "Turn2") => `(tactic| (dsimp only [Turn2]))
local macro_rules | `(tactic| walk_at "TurnEnd") => `(tactic| (refine Halt.mk ?_))
local macro_rules | `(tactic| walk_at "subscriptTail Name Constant ref str") => `(tactic| (k_here; (with_reducible show wpAny _ _ (subscriptTail _ _ (Value.ref _) (Value.str _ _)) _ _ _); k_dflt (refine' get_W ?N ?m ?W ?v ?_ ?hs ?hg; (case N => k_asm); (case m => k_mem); (case W => assumption); (case v => exact rfl); (case hs => with_unfolding_all rfl); (case hg => (intro _; with_unfolding_all rfl)))))
local macro_rules | `(tactic| walk_at "setItem ref str") => `(tactic| (k_here; (with_reducible show wpAny _ _ (setItem (Value.ref _) (Value.str _ _) (Value.ref _)) _ _ _); k_dflt (refine' set_W ?F ?N ?U ?W ?st ?_; (case F => k_asm); (case N => k_asm); (case U => k_updF); (case W => assumption); (case st => exact rfl); intro h' o' F' N' W'; (try dsimp only at N'); (try k_sweep))))
local macro_rules | `(tactic| walk_at "FinE") => `(tactic| ((unfold LCg.FinE); intro D' h' tk' F' N' o1'; (try simp only [List.nil_append, List.cons_append] at N'); (try dsimp only)))
local macro_rules | `(tactic| walk_at "FinA") => `(tactic| ((unfold LCg.FinA); intro D' h' tk' F' N' o1'; (try simp only [List.nil_append, List.cons_append] at N'); (try dsimp only)))
local macro_rules | `(tactic| walk_at "newList") => `(tactic| (k_here; k_dflt (refine' newList_K ?k1 ?k2 ?_; (case k1 => k_asm); (case k2 => k_asm); k_whole); intro l' h' F' N' l1; (replace l1 := off1_all l1); (try k_sweep)))
local macro_rules | `(tactic| walk_at "call type:list") => `(tactic| (k_here; (with_reducible show wpAny _ _ (call (Value.type "list") [Value.bytes _ _]) _ _ _); k_dflt (refine' list_bytes ?hh ?F ?N ?z ?_; (case hh => exact rfl); (case F => k_asm); (case N => k_asm); (case z => (rw [byteArr_size, shown_len, sizeLine_eq]; exact Nat.le_of_ble_eq_true rfl)); k_whole; intro D' c' h' tk' vs' F' N' l1 iB'; (try k_sweep))))
local macro_rules | `(tactic| walk_at "compareOp In int ref") => `(tactic| (k_here; k_dflt (refine' in_list_ints ?l ?i ?_; (case l => exact News.isList (by k_asm) (by k_mem)); (case i => assumption))))
local macro_rules | `(tactic| walk_at "subscriptTail Name Name ref int") => `(tactic| (k_here; (with_reducible show wpAny _ _ (subscriptTail _ _ (Value.ref _) (Value.int _ _)) _ _ _); k_dflt (refine' item_L ?N ?m ?i ?lo ?hi ?z ?_ ?hs; (case N => k_asm); (case m => k_mem); (case i => assumption); (case lo => assumption); (case hi => omega); (case z => omega); (case hs => with_unfolding_all rfl); intro t')))
local macro_rules | `(tactic| walk_at "compareOp NotEq ref ref") => `(tactic| (k_here; (with_reducible show wpAny _ _ (compareOp CmpOp.NotEq (Value.ref _) (Value.ref _)) _ _ _); k_dflt (refine' ne_DI0 ?N ?ma ?mb ?la ?lb ?da ?db ?hu ?_; (case N => k_asm); (case ma => k_mem); (case mb => k_mem); (case la => assumption); (case lb => assumption); (case da => first | assumption | (refine' DI.nil ?x ?y; (case x => assumption); (case y => assumption))); (case db => first | assumption | (refine' DI.nil ?x ?y; (case x => assumption); (case y => assumption))); (case hu => ktr_units))))
local macro_rules | `(tactic| walk_at "compareOp Eq ref ref") => `(tactic| (k_here; (with_reducible show wpAny _ _ (compareOp CmpOp.Eq (Value.ref _) (Value.ref _)) _ _ _); k_dflt (refine' eq_DI0 ?N ?ma ?mb ?la ?lb ?da ?db ?hu ?_; (case N => k_asm); (case ma => k_mem); (case mb => k_mem); (case la => assumption); (case lb => assumption); (case da => first | assumption | (refine' DI.nil ?x ?y; (case x => assumption); (case y => assumption))); (case db => first | assumption | (refine' DI.nil ?x ?y; (case x => assumption); (case y => assumption))); (case hu => ktr_units))))
local macro_rules | `(tactic| walk_at "TestEnd") => `(tactic| (refine Halt.mk ?_))
local macro_rules | `(tactic| walk_at "ElEnd") => `(tactic| (refine Halt.mk ?_))
set_option maxRecDepth 100000 in
set_option maxHeartbeats 8000000 in
theorem deed_end (w : World) {mean : ExcName → Option Value} {mg mb : Str → Option Value} {dp un : Nat} {gd : Option (List Code)} {cn : Str} {cs : Scope} {a : Addr} {ccd : Value} {cl : List (Str × Addr)} {outer : List Env} {base g : Heap} {L0 L : Addr} {rest : List (Addr × Obj)} {s : Shared} {Q : Flow → Shared → Prop} {E : Value → Shared → Prop} (Pn Pi Pd Mi Md H Bw W : Addr) (k1 k2 k3 kt : Tok) (y1 y2 y3 hh : Int) {n : Nat} {m : Str → Option Value} {led : List (Addr × Obj)} (o1 o2 o3 : Obj) (hlo : (H == sysModules) = false) (hWd : Wd w Pn Pi Pd Mi Md H Bw W k1 k2 k3 kt y1 y2 y3 hh n led)
    (B : Below (ktrTop dp un gd cn cs L0 a ccd cl outer) base (envX cn cs L0 a ccd cl :: outer) g) (F : Fr g L s.heap m)
    (X : (hd.heap_39 w.params).In g) (T : Top hd.view_39 (looseW hd.view_39 []) mean mg mb g) (hdN : dp + 20 < recursionLimit) (huN : un + 200 < cLine)
    (d2 : o2.data = .cell (some (.ref W))) (d3 : o3.data = .cell (some (.ref Bw))) (f1 : m (PySem.Str.ofString "points") = some (.ref Pi))
    (N : News g L s.heap ([(L + 3, o1), (L + 2, o2), (L + 1, o3)] ++ (led ++ rest)))
    (ret : ∀ all m' h' tk', Fr g L h' m' → News g L h' all → (∀ p ∈ led ++ rest, p ∈ all) → Q (.ret (.bool true)) { s with heap := h', toks := tk' }) :
    wpAny (model PySem.Challenge.rw_qd0109_01.row.prog w) ((ktrTop dp un gd cn cs L0 a ccd cl outer).deeper (envOfC (PySem.Str.ofString "_law_deed") (fnAt w 214).scope L 214 (.ref 213))) (execs ((bodyAt w 214).drop 6) (envOfC (PySem.Str.ofString "_law_deed") (fnAt w 214).scope L 214 (.ref 213))) Q E s := by
  have em : m = fun y => if y = PySem.Str.ofString "points" then some (.ref Pi) else m y := by
    funext y
    by_cases h1 : y = PySem.Str.ofString "points"
    · rw [if_pos h1, h1, f1]
    · rw [if_neg h1]
  rw [em] at F
  clear em f1
  revert X
  k_fill
  intro X
  obtain ⟨KD, PL, WP, WL, WO, st, sd, ct, t1, t2, t3, ep, epl, epb, e1, e2, e3, oH, oK, oW, l, kl, vs, bs, vp, vl, vo, ps, bl, wp, wl, wo, rfl, hnd, hst, hsd, hsd2, hct, hct2, hlo2, hD, hK, hW, hI, hl, hps, hwp, hwl, hwo, i1, i2, i3, i4, i5⟩ := hWd
  simp only [List.cons_append, List.nil_append] at N
  rw [show (bodyAt w 214).drop 6 = [_, _] from rfl, show (fnAt w 214).scope = Scope.mk _ _ _ _ _ from rfl]
  have q1 := hI.there
  have q5 := hI.dues
  have q6 : ∀ x ∈ shown (getI l) (getI kl) 8, 0 ≤ x ∧ x < 256 := by rw [hI.shows]; exact hI.byte
  have q8 := hI.blen
  w_on
  k_steps
  refine Halt.out ?_
  refine map_rng (n := 8) (f := dueF bl wl wo) trivial rfl (by k_asm) (by k_asm) (by assumption) (by decide) rfl (by rw [sizeLine_eq]; exact Nat.le_of_ble_eq_true rfl) ?turn9 ?fin9
  · intro k t I oI C oC D m₂ ys h tk E' h0 h1 hC hx F' N' off ne
    k_steps
    all_goals (refine ElEnd.intro ?_ (by assumption) (by assumption))
    all_goals (first | exact due_a (by assumption) (by assumption) | exact due_b (by assumption) (by assumption) | exact due_c (by assumption))
  · intro g9 ys hys
    k_steps
    · rename Fr _ _ _ _ => kF
      rename News _ _ _ _ => kN
      rw [decide_eq_true ((bints_back q6).trans hI.shows)]
      exact ret _ _ _ _ kF kN (fun p hp => by repeat (first | exact hp | refine List.Mem.tail _ ?_))
    · exact absurd rfl (by assumption)
local macro_rules | `(tactic| walk_at "call ref") => `(tactic| (k_here; (with_reducible show wpAny _ _ (call (Value.ref 117) _ _) _ _ _); (k_dflt (refine' use_set_octet ?kB ?kF ?kX ?kN ?kT ?kk ?m1 ?m2 ?U ?hD ?r3 ?r4 ?r5 ?p0 ?p1 ?hz ?kd ?ku ?_; (case kB => k_asm); (case kF => k_asm); (case kX => k_asm); (case kN => k_asm); (case kT => k_asm); (case kk => first | exact rfl | assumption); (case m1 => k_mem); (case m2 => k_mem); (case U => k_updF); (case hD => assumption); (case r3 => assumption); (case r4 => assumption); (case r5 => assumption); (case p0 => omega); (case p1 => omega); (case hz => omega); (case kd => ktr_room); (case ku => ktr_units); intro o9 h9 tk9 F' N' D9; (try dsimp only at N'); (try k_sweep)))))
local macro_rules | `(tactic| walk_at "call ref") => `(tactic| (k_here; (with_reducible show wpAny _ _ (call (Value.ref 204) _ _) _ _ _); (k_dflt (refine' use_take ?kB ?kF ?kX ?kN ?kT ?kk ?U ?p1 ?p2 ?p3 ?p4 ?p5 ?p6 ?p7 ?kd ?ku ?_; (case kB => k_asm); (case kF => k_asm); (case kX => k_asm); (case kN => k_asm); (case kT => k_asm); (case kk => first | exact rfl | assumption); (case U => k_updF); (case p1 => omega); (case p2 => omega); (case p3 => omega); (case p4 => omega); (case p5 => omega); (case p6 => omega); (case p7 => omega); (case kd => ktr_room); (case ku => ktr_units); intro v9 tv9 st9 sd9 ct9 t19 t29 t39 h9 tk9 F' N' b1 b2 b3 b4 b5 b6 b7; (try dsimp only at N'); (try k_sweep)))))
local macro_rules | `(tactic| walk_at "setItem ref int") => `(tactic| (k_here; k_dflt (refine' set_DI ?F ?N ?U ?D ?z ?_; (case F => k_asm); (case N => k_asm); (case U => k_updF); (case D => assumption); (case z => omega); intro h' o' F' N' D'; (try dsimp only at N'); (try k_sweep))))
local macro_rules | `(tactic| walk_at "setItem ref int") => `(tactic| (k_here; (with_reducible show wpAny _ _ (setItem (Value.ref _) (Value.int _ _) (Value.int _ _)) _ _ _); k_dflt (refine' ksa_set ?k1 ?k2 ?k3 ?k4 ?k5 ?k6 ?k7 ?_; (case k1 => k_asm); (case k2 => k_asm); (case k3 => k_upd); (case k4 => with_reducible assumption); (case k5 => assumption); (case k6 => omega); (case k7 => omega); k_whole); intro h' F' N' hi' hl' hs'; (try k_sweep)))
local macro_rules | `(tactic| walk_at "call builtin:list.append") => `(tactic| (k_here; (try dsimp only [List.cons_append, List.nil_append]); (with_reducible show wpAny _ _ (call (Value.builtin _) [Value.ref _, _]) _ _ _); k_dflt (refine' append_K ?k1 ?k2 ?k3 ?_ ?z; (case k1 => k_asm); (case k2 => k_asm); (case k3 => k_upd); (case z => assumption); k_whole); intro h' F' N'; (try k_sweep)))
local macro_rules | `(tactic| ktr_rel) => `(tactic| first | (refine' UpdF2.one ?a ?b ?c; (case a => k_all); (case b => k_ne); (case c => k_updF)) | (refine' UpdF2.two ?a ?b ?c; (case a => k_all); (case b => k_ne); (case c => k_updF)) | (refine' UpdF2.skip ?a ?b ?c; (case a => k_ne); (case b => k_ne); (case c => ktr_rel)))
local macro_rules | `(tactic| walk_at "call ref") => `(tactic| (k_here; (with_reducible show wpAny _ _ (call (Value.ref 42) _ _) _ _ _); (k_dflt (refine' use_put ?kB ?kF ?kX ?kN ?kT ?kk ?m1 ?m2 ?U ?i ?z ?r1 ?r2 ?r7 ?kd ?ku ?_; (case kB => k_asm); (case kF => k_asm); (case kX => k_asm); (case kN => k_asm); (case kT => k_asm); (case kk => first | exact rfl | assumption); (case m1 => k_mem); (case m2 => k_mem); (case U => k_updF); (case i => assumption); (case z => omega); (case r1 => assumption); (case r2 => assumption); (case r7 => assumption); (case kd => ktr_room); (case ku => ktr_units); intro vs9 ep9 h9 tk9 F' N' i9; (try dsimp only at N'); (try k_sweep)))))
local macro_rules | `(tactic| walk_at "call ref") => `(tactic| (k_here; (with_reducible show wpAny _ _ (call (Value.ref 47) _ _) _ _ _); (k_dflt (refine' use_drop ?kB ?kF ?kX ?kN ?kT ?kk ?m1 ?U ?m3 ?i ?z ?r1 ?r2 ?r7 ?kd ?ku ?_; (case kB => k_asm); (case kF => k_asm); (case kX => k_asm); (case kN => k_asm); (case kT => k_asm); (case kk => first | exact rfl | assumption); (case m1 => k_mem); (case U => k_updF); (case m3 => k_mem); (case i => assumption); (case z => omega); (case r1 => assumption); (case r2 => assumption); (case r7 => assumption); (case kd => ktr_room); (case ku => ktr_units); intro D9 vs9 ep9 h9 tk9 F' N' n9 i9; (try dsimp only at N'); (try k_sweep)))))
local macro_rules | `(tactic| walk_at "call ref") => `(tactic| (k_here; (with_reducible show wpAny _ _ (call (Value.ref 54) _ _) _ _ _); (k_dflt (refine' use_plant ?kB ?kF ?kX ?kN ?kT ?kk ?m1 ?m2 ?m3 ?m4 ?m5 ?U ?lo ?lo2 ?hD ?hK ?hM ?i ?z1 ?z2 ?z3 ?r1 ?r2 ?r3 ?r4 ?r5 ?r6 ?r7 ?kd ?ku ?_; (case kB => k_asm); (case kF => k_asm); (case kX => k_asm); (case kN => k_asm); (case kT => k_asm); (case kk => first | exact rfl | assumption); (case m1 => k_mem); (case m2 => k_mem); (case m3 => k_mem); (case m4 => k_mem); (case m5 => k_mem); (case U => ktr_rel); (case lo => assumption); (case lo2 => assumption); (case hD => assumption); (case hK => assumption); (case hM => assumption); (case i => assumption); (case z1 => omega); (case z2 => omega); (case z3 => omega); (case r1 => assumption); (case r2 => assumption); (case r3 => assumption); (case r4 => assumption); (case r5 => assumption); (case r6 => assumption); (case r7 => assumption); (case kd => ktr_room); (case ku => ktr_units); intro oH9 l9 oK9 kl9 h9 tk9 F' N' d9 d8 e9 e8 e7; (try dsimp only at N'); (try k_sweep)))))
local macro_rules | `(tactic| walk_at "call ref") => `(tactic| (k_here; (with_reducible show wpAny _ _ (call (Value.ref 61) _ _) _ _ _); (k_dflt (refine' use_lift ?kB ?kF ?kX ?kN ?kT ?kk ?m1 ?m4 ?m5 ?m6 ?U ?lo ?lo2 ?hD ?hK ?hM ?z2 ?r1 ?r2 ?r3 ?r4 ?r5 ?r6 ?kd ?ku ?_; (case kB => k_asm); (case kF => k_asm); (case kX => k_asm); (case kN => k_asm); (case kT => k_asm); (case kk => first | exact rfl | assumption); (case m1 => k_mem); (case m4 => k_mem); (case m5 => k_mem); (case U => ktr_rel); (case m6 => k_mem); (case lo => assumption); (case lo2 => assumption); (case hD => assumption); (case hK => assumption); (case hM => assumption); (case z2 => omega); (case r1 => assumption); (case r2 => assumption); (case r3 => assumption); (case r4 => assumption); (case r5 => assumption); (case r6 => assumption); (case kd => ktr_room); (case ku => ktr_units); intro KD9 oK9 oH9 l9 h9 tk9 F' N' n9 d9 d8 e9 e8 e7; (try dsimp only at N'); (try k_sweep)))))
local macro_rules | `(tactic| walk_at "binaryOp Add ref ref") => `(tactic| (k_here; (with_reducible show wpAny _ _ (binaryOp _ (Value.ref _) (Value.ref _)) _ _ _); k_dflt (refine' kmk_add_ints ?F ?N ?a ?b ?i ?j ?_ ?z; (case F => k_asm); (case N => k_asm); (case a => exact News.isList (by k_asm) (by k_mem)); (case b => exact News.isList (by k_asm) (by k_mem)); (case i => assumption); (case j => first | assumption | exact IntsAre.cons _ _ IntsAre.nil); (case z => (rw [PySem.sizeLine_eq]; (try simp only [List.length_cons, List.length_nil]); first | omega | (refine Nat.le_trans (Nat.add_le_add_right (List.length_filter_le _ _) _) ?_; omega) | (refine Nat.le_trans (Nat.add_le_add_left (List.length_filter_le _ _) _) ?_; omega))); intro D' ws' h' F' N' l1 hI'; (replace l1 := off1_all l1); (try k_sweep))))
local macro_rules | `(tactic| k_all) => `(tactic| exact off1_rest (by assumption) (fun p hp => by repeat (first | exact hp | refine List.Mem.tail _ ?_)))
local macro_rules | `(tactic| walk_at "execs cons") => `(tactic| (k_here; (with_reducible show wpAny _ _ (execs [Stmt.Assign [PySem.Expr.Name _ _] _ _, Stmt.Return _ _] _) _ _ _); refine Halt.mk ?_))
set_option maxRecDepth 100000 in
set_option maxHeartbeats 8000000 in
theorem tail4 (w : World) {mean : ExcName → Option Value} {mg mb : Str → Option Value} {dp un : Nat} {gd : Option (List Code)} {cn : Str} {cs : Scope} {a : Addr} {ccd : Value} {cl : List (Str × Addr)} {outer : List Env} {base g : Heap} {L0 L : Addr} {rest : List (Addr × Obj)} {s : Shared} {Q : Flow → Shared → Prop} {E : Value → Shared → Prop} (Pn Pi Pd Mi Md H Bw W : Addr) (k1 k2 k3 kt : Tok) (y1 y2 y3 hh : Int) (KD PL WP WL WO : Addr) (st sd ct : Int) (t1 t2 t3 : Tok) (ep epl epb e1 e2 e3 : Nat) (oH oK oW : Obj) (l kl : List (Int × Int)) (vs bs vp vl vo : List Value) (ps bl wp wl wo : List Int) (pl : Int) (tw tp : Tok) (o1 o2 o3 : Obj) (n : Nat) (hn : n < 12) {rk : Nat → Nat} (r0 : Rk rk Pn 0) (r1 : Rk rk Pi 1) (r2 : Rk rk Pd 2) (r3 : Rk rk Mi 3) (r4 : Rk rk Md 4) (r5 : Rk rk H 5) (r6 : Rk rk KD 6) (r7 : Rk rk PL 7) (r8 : Rk rk Bw 8) (r9 : Rk rk W 9) (r10 : Rk rk WP 10) (r11 : Rk rk WL 11) (r12 : Rk rk WO 12)
    (x13 : Rk rk (L + 1) 13) (x14 : Rk rk (L + 2) 14) (x15 : Rk rk (L + 3) 15)
    (hlo : (H == sysModules) = false) (hst : 0 ≤ st) (hsd : 0 ≤ sd) (hsd2 : sd < 2147483647) (hct : 0 ≤ ct) (hct2 : ct ≤ 10 + 3 * (n : Int)) (hlo2 : (KD == sysModules) = false) (hD : DI w oH l) (hK : DI w oK kl) (hW : WI w oW WP WL WO) (hI : Inv (getI l) (getI kl) bl ps wp wl wo) (hl : l.length ≤ 500) (hps : ps.length ≤ n) (hwp : wp.length ≤ n) (hwl : wl.length ≤ 12 * n) (hwo : wo.length ≤ n) (i1 : IntsAre vs ps) (i2 : IntsAre bs bl) (i3 : IntsAre vp wp) (i4 : IntsAre vl wl) (i5 : IntsAre vo wo)
    (hoff : OwnOff rest [Pn, Pi, Pd, Mi, Md, H, KD, PL, Bw, W, WP, WL, WO, L + 1, L + 2, L + 3])
    (B : Below (ktrTop dp un gd cn cs L0 a ccd cl outer) base (envX cn cs L0 a ccd cl :: outer) g)
    (F : Fr g L s.heap (fun y => if y = PySem.Str.ofString "way" then some (.int 4 tw) else if y = PySem.Str.ofString "points" then some (.ref Pi) else if y = PySem.Str.ofString "pen" then some (.ref Pn) else none))
    (X : (hd.heap_39 w.params).In g) (T : Top hd.view_39 (looseW hd.view_39 []) mean mg mb g) (hdN : dp + 20 < recursionLimit) (huN : un + 200 < cLine)
    (d1 : o1.data = .cell (some (.int pl tp))) (d2 : o2.data = .cell (some (.ref W))) (d3 : o3.data = .cell (some (.ref Bw))) (p0 : 0 ≤ pl) (p1 : pl < 8)
    (N : News g L s.heap ((L + 3, o1) :: (L + 2, o2) :: (L + 1, o3) :: ([(Pn, listOf #[.int st t1, .int sd t2, .int ct t3] ep), (Pi, instObj 71 Pd), (Pd, dictOf [⟨y1, .str "memory" k1, .ref Mi⟩, ⟨y2, .str "places" k2, .ref PL⟩, ⟨y3, .str "kept" k3, .ref KD⟩] 3), (Mi, instObj 179 Md), (Md, dictOf [⟨hh, .str "held" kt, .ref H⟩] 1), (H, oH), (KD, oK), (PL, listOf (List.toArray vs) epl), (Bw, listOf (List.toArray bs) epb), (W, oW), (WP, listOf (List.toArray vp) e1), (WL, listOf (List.toArray vl) e2), (WO, listOf (List.toArray vo) e3)] ++ rest)))
    (ret : ∀ led' all m' h' tk', Wd w Pn Pi Pd Mi Md H Bw W k1 k2 k3 kt y1 y2 y3 hh (n + 1) led' → Fr g L h' m' → News g L h' all → (∀ p ∈ led' ++ rest, p ∈ all) → OwnOff rest (led'.map (·.1)) → Q (.ret (.bool true)) { s with heap := h', toks := tk' }) :
    wpAny (model PySem.Challenge.rw_qd0109_01.row.prog w) ((ktrTop dp un gd cn cs L0 a ccd cl outer).deeper (envOfC (PySem.Str.ofString "_law_deed") (fnAt w 214).scope L 214 (.ref 213))) (execs ((bodyAt w 214).drop 1) (envOfC (PySem.Str.ofString "_law_deed") (fnAt w 214).scope L 214 (.ref 213))) Q E s := by
  revert X
  k_fill
  intro X
  simp only [List.cons_append, List.nil_append] at N
  rw [show (bodyAt w 214).drop 1 = [_, _, _, _, _, _, _] from rfl, show (fnAt w 214).scope = Scope.mk _ _ _ _ _ from rfl]
  have q1 := hI.there
  have q2 : ∀ p, (getI kl p).isSome = true → 256 ≤ p ∧ p < 264 ∧ (getI l p).isSome = true := fun p hp => by
    obtain ⟨z1, z2, z3⟩ := hI.keys p hp
    have := hI.there (p - 256) (by omega) (by omega)
    rw [show 256 + (p - 256) = p by omega] at this
    exact ⟨z1, z2, this⟩
  have q3 : ∀ p ∈ ps, 256 ≤ p ∧ p < 264 ∧ (getI l p).isSome = true := fun p hp => by
    obtain ⟨z1, z2⟩ := hI.wpr _ ((hI.pw p).mp hp)
    have := hI.there (p - 256) z1 z2
    rw [show 256 + (p - 256) = p by omega] at this
    exact ⟨by omega, by omega, this⟩
  have q4 := few_DI hK fun p hp => ⟨(q2 p hp).1, (q2 p hp).2.1⟩
  w_on
  have q8 := hI.blen
  k_steps
  rename_i v9 tv9 st9 sd9 ct9 t19 t29 t39 ha9 tka9 b1 b2 b3 b4 b5 b6 b7 z1 o9 z2 z3 D9 z4 z5 z6 z7 z8 z9 za zb zc zd ze zf zg zh zi zj zk
  have hI9 : Inv (getI (putI l (256 + pl) v9)) (getI kl) (bl.set pl.toNat v9) ps wp wl (wo ++ [pl]) := hI.store p0 p1 b1 b2 (fun p => getI_put l (256 + pl) v9 p)
  have ql : (putI l (256 + pl) v9).length = l.length := by
    obtain ⟨x, hx⟩ := Option.isSome_iff_exists.mp (hI.there pl p0 p1)
    exact putI_same hx
  refine Halt.out ?_
  rename Fr _ _ _ _ => kF
  rename News _ _ _ _ => kN
  refine' deed_pack (Pn := Pn) (Pi := Pi) (Pd := Pd) (Mi := Mi) (Md := Md) (H := H) (Bw := Bw) (W := W) (n := n) (rest := rest) (cells := [(_, o1), (_, o2), (_, o3)]) kN ?m2 ?m9 ?hW ?m0 ?m1 ?m3 ?m4 ?m5 ?m6 ?m7 ?m8 ?m10 ?m11 ?m12 ?hr ?hD ?hK ?hlo2 ?i1 ?i2 ?i3 ?i4 ?i5 ?hI ?b1 ?b2 ?b3 ?b4 ?b5 ?b6 ?b7 ?b8 ?b9 ?b10 ?hnd ?hoff ?hc ?next
  case m2 => k_mem
  case m9 => k_mem
  case hW => assumption
  case m0 => k_mem
  case m1 => k_mem
  case m3 => k_mem
  case m4 => k_mem
  case m5 => k_mem
  case m6 => k_mem
  case m7 => k_mem
  case m8 => k_mem
  case m10 => k_mem
  case m11 => k_mem
  case m12 => k_mem
  case hr => exact fun p hp => by repeat (first | exact hp | refine List.Mem.tail _ ?_)
  case hD => assumption
  case hK => assumption
  case hlo2 => assumption
  case i1 => assumption
  case i2 => assumption
  case i3 => assumption
  case i4 => assumption
  case i5 => assumption
  case hI => exact hI9
  case b1 => omega
  case b2 => omega
  case b3 => omega
  case b4 => omega
  case b5 => omega
  case b6 => omega
  case b7 => first | omega | (split <;> (try simp only [List.length_append, List.length_cons, List.length_nil]) <;> omega) | (refine Nat.le_trans (List.length_filter_le _ _) ?_; omega)
  case b8 => first | omega | (simp only [List.length_append, List.length_cons, List.length_nil]; refine Nat.le_trans (Nat.add_le_add_right (List.length_filter_le _ _) _) ?_; omega) | (refine Nat.le_trans (List.length_filter_le _ _) ?_; omega)
  case b9 => first | omega | (simp only [List.length_append, List.length_cons, List.length_nil]; refine Nat.le_trans (Nat.add_le_add_left (List.length_filter_le _ _) _) ?_; omega) | (simp only [List.length_nil]; omega)
  case b10 => first | omega | (simp only [List.length_append, List.length_cons, List.length_nil]; omega) | (refine Nat.le_trans (List.length_filter_le _ _) ?_; omega) | (simp only [List.length_nil]; omega)
  case hnd =>
    simp only [List.nodup_cons, List.mem_cons, not_or, List.not_mem_nil, not_false_eq_true, List.nodup_nil, and_true, or_false]
    w_strict (repeat' (first | apply And.intro | k_ne))
  case hoff => w_strict (repeat' (first | exact off_nil | (refine off_cons ?_ ?_; k_all)))
  case hc => w_strict (refine List.forall_mem_cons.mpr ⟨by k_mem, ?_⟩; refine List.forall_mem_cons.mpr ⟨by k_mem, ?_⟩; refine List.forall_mem_cons.mpr ⟨by k_mem, ?_⟩; exact List.forall_mem_nil _)
  intro led8 hW8 N8 off8
  exact deed_end w Pn Pi Pd Mi Md H Bw W k1 k2 k3 kt y1 y2 y3 hh o1 o2 o3 hlo hW8 B kF X T hdN huN d2 d3 (by rfl) N8 (fun all m' h' tk' F' N' hs => ret _ all m' h' tk' hW8 F' N' hs off8)
local macro_rules | `(tactic| walk_at "setItem ref int") => `(tactic| (k_here; k_dflt (refine' set_DI ?F ?N ?U ?D ?z ?_; (case F => k_asm); (case N => k_asm); (case U => k_updF); (case D => assumption); (case z => omega); intro h' o' F' N' D'; (try dsimp only at N'); (try k_sweep))))
local macro_rules | `(tactic| walk_at "call ref") => `(tactic| (k_here; (with_reducible show wpAny _ _ (call (Value.ref 209) _ _) _ _ _); (k_dflt (refine' use_octs ?kB ?kF ?kX ?kN ?kT ?kk ?m4 ?m5 ?m7 ?lo ?hD ?hM ?kd ?ku ?_; (case kB => k_asm); (case kF => k_asm); (case kX => k_asm); (case kN => k_asm); (case kT => k_asm); (case kk => first | exact rfl | assumption); (case m4 => k_mem); (case m5 => k_mem); (case m7 => k_mem); (case lo => assumption); (case hD => assumption); (case hM => assumption); (case kd => ktr_room); (case ku => ktr_units); intro D9 vs9 ep9 h9 tk9 F' N' n9 i9; (try dsimp only at N'); (try k_sweep)))))
local macro_rules | `(tactic| walk_at "call ref") => `(tactic| (k_here; (with_reducible show wpAny _ _ (call (Value.ref 209) _ _) _ _ _); (rename Once => tok9); clear tok9; refine Halt.mk ?_))
set_option maxRecDepth 100000 in
set_option maxHeartbeats 8000000 in
theorem tail3 (w : World) {mean : ExcName → Option Value} {mg mb : Str → Option Value} {dp un : Nat} {gd : Option (List Code)} {cn : Str} {cs : Scope} {a : Addr} {ccd : Value} {cl : List (Str × Addr)} {outer : List Env} {base g : Heap} {L0 L : Addr} {rest : List (Addr × Obj)} {s : Shared} {Q : Flow → Shared → Prop} {E : Value → Shared → Prop} (Pn Pi Pd Mi Md H Bw W : Addr) (k1 k2 k3 kt : Tok) (y1 y2 y3 hh : Int) (KD PL WP WL WO : Addr) (st sd ct : Int) (t1 t2 t3 : Tok) (ep epl epb e1 e2 e3 : Nat) (oH oK oW : Obj) (l kl : List (Int × Int)) (vs bs vp vl vo : List Value) (ps bl wp wl wo : List Int) (pl : Int) (tw tp : Tok) (o1 o2 o3 : Obj) (n : Nat) (hn : n < 12) {rk : Nat → Nat} (r0 : Rk rk Pn 0) (r1 : Rk rk Pi 1) (r2 : Rk rk Pd 2) (r3 : Rk rk Mi 3) (r4 : Rk rk Md 4) (r5 : Rk rk H 5) (r6 : Rk rk KD 6) (r7 : Rk rk PL 7) (r8 : Rk rk Bw 8) (r9 : Rk rk W 9) (r10 : Rk rk WP 10) (r11 : Rk rk WL 11) (r12 : Rk rk WO 12)
    (x13 : Rk rk (L + 1) 13) (x14 : Rk rk (L + 2) 14) (x15 : Rk rk (L + 3) 15)
    (hlo : (H == sysModules) = false) (hst : 0 ≤ st) (hsd : 0 ≤ sd) (hsd2 : sd < 2147483647) (hct : 0 ≤ ct) (hct2 : ct ≤ 10 + 3 * (n : Int)) (hlo2 : (KD == sysModules) = false) (hD : DI w oH l) (hK : DI w oK kl) (hW : WI w oW WP WL WO) (hI : Inv (getI l) (getI kl) bl ps wp wl wo) (hl : l.length ≤ 500) (hps : ps.length ≤ n) (hwp : wp.length ≤ n) (hwl : wl.length ≤ 12 * n) (hwo : wo.length ≤ n) (i1 : IntsAre vs ps) (i2 : IntsAre bs bl) (i3 : IntsAre vp wp) (i4 : IntsAre vl wl) (i5 : IntsAre vo wo)
    (hoff : OwnOff rest [Pn, Pi, Pd, Mi, Md, H, KD, PL, Bw, W, WP, WL, WO, L + 1, L + 2, L + 3])
    (B : Below (ktrTop dp un gd cn cs L0 a ccd cl outer) base (envX cn cs L0 a ccd cl :: outer) g)
    (F : Fr g L s.heap (fun y => if y = PySem.Str.ofString "way" then some (.int 3 tw) else if y = PySem.Str.ofString "points" then some (.ref Pi) else if y = PySem.Str.ofString "pen" then some (.ref Pn) else none))
    (X : (hd.heap_39 w.params).In g) (T : Top hd.view_39 (looseW hd.view_39 []) mean mg mb g) (hdN : dp + 20 < recursionLimit) (huN : un + 200 < cLine)
    (d1 : o1.data = .cell (some (.int pl tp))) (d2 : o2.data = .cell (some (.ref W))) (d3 : o3.data = .cell (some (.ref Bw))) (p0 : 0 ≤ pl) (p1 : pl < 8)
    (N : News g L s.heap ((L + 3, o1) :: (L + 2, o2) :: (L + 1, o3) :: ([(Pn, listOf #[.int st t1, .int sd t2, .int ct t3] ep), (Pi, instObj 71 Pd), (Pd, dictOf [⟨y1, .str "memory" k1, .ref Mi⟩, ⟨y2, .str "places" k2, .ref PL⟩, ⟨y3, .str "kept" k3, .ref KD⟩] 3), (Mi, instObj 179 Md), (Md, dictOf [⟨hh, .str "held" kt, .ref H⟩] 1), (H, oH), (KD, oK), (PL, listOf (List.toArray vs) epl), (Bw, listOf (List.toArray bs) epb), (W, oW), (WP, listOf (List.toArray vp) e1), (WL, listOf (List.toArray vl) e2), (WO, listOf (List.toArray vo) e3)] ++ rest)))
    (ret : ∀ led' all m' h' tk', Wd w Pn Pi Pd Mi Md H Bw W k1 k2 k3 kt y1 y2 y3 hh (n + 1) led' → Fr g L h' m' → News g L h' all → (∀ p ∈ led' ++ rest, p ∈ all) → OwnOff rest (led'.map (·.1)) → Q (.ret (.bool true)) { s with heap := h', toks := tk' }) :
    wpAny (model PySem.Challenge.rw_qd0109_01.row.prog w) ((ktrTop dp un gd cn cs L0 a ccd cl outer).deeper (envOfC (PySem.Str.ofString "_law_deed") (fnAt w 214).scope L 214 (.ref 213))) (execs ((bodyAt w 214).drop 1) (envOfC (PySem.Str.ofString "_law_deed") (fnAt w 214).scope L 214 (.ref 213))) Q E s := by
  revert X
  k_fill
  intro X
  simp only [List.cons_append, List.nil_append] at N
  rw [show (bodyAt w 214).drop 1 = [_, _, _, _, _, _, _] from rfl, show (fnAt w 214).scope = Scope.mk _ _ _ _ _ from rfl]
  have q1 := hI.there
  have q2 : ∀ p, (getI kl p).isSome = true → 256 ≤ p ∧ p < 264 ∧ (getI l p).isSome = true := fun p hp => by
    obtain ⟨z1, z2, z3⟩ := hI.keys p hp
    have := hI.there (p - 256) (by omega) (by omega)
    rw [show 256 + (p - 256) = p by omega] at this
    exact ⟨z1, z2, this⟩
  have q3 : ∀ p ∈ ps, 256 ≤ p ∧ p < 264 ∧ (getI l p).isSome = true := fun p hp => by
    obtain ⟨z1, z2⟩ := hI.wpr _ ((hI.pw p).mp hp)
    have := hI.there (p - 256) z1 z2
    rw [show 256 + (p - 256) = p by omega] at this
    exact ⟨by omega, by omega, this⟩
  have q4 := few_DI hK fun p hp => ⟨(q2 p hp).1, (q2 p hp).2.1⟩
  w_on
  have tok : Once := trivial
  k_steps
  rename_i KD9 oK9 oH9 l9 h9 tk9 n9 d9 d8 e9 e8 e7 wl9 z1 z2 wo9 z3 z4 z5 z6 z7 z8 z9 za zb zc zd ze zf zg zh zi zj zk zl zm zn zo zp
  have hI9 : Inv (getI l9) (getI []) bl ps wp [] [] := hI.lift (fun p => (getI_mem (l := kl)).symm) e7 (fun p => rfl)
  have q5 := hI9.dues
  have i9 : IntsAre ([] : List Value) [] := .nil
  have q9 := dues_nil hI.blen
  refine Halt.out ?_
  k_steps
  refine Halt.out ?_
  rename Fr _ _ _ _ => kF
  rename News _ _ _ _ => kN
  refine' deed_pack (Pn := Pn) (Pi := Pi) (Pd := Pd) (Mi := Mi) (Md := Md) (H := H) (Bw := Bw) (W := W) (n := n) (rest := rest) (cells := [(_, o1), (_, o2), (_, o3)]) kN ?m2 ?m9 ?hW ?m0 ?m1 ?m3 ?m4 ?m5 ?m6 ?m7 ?m8 ?m10 ?m11 ?m12 ?hr ?hD ?hK ?hlo2 ?i1 ?i2 ?i3 ?i4 ?i5 ?hI ?b1 ?b2 ?b3 ?b4 ?b5 ?b6 ?b7 ?b8 ?b9 ?b10 ?hnd ?hoff ?hc ?next
  case m2 => k_mem
  case m9 => k_mem
  case hW => assumption
  case m0 => k_mem
  case m1 => k_mem
  case m3 => k_mem
  case m4 => k_mem
  case m5 => k_mem
  case m6 => k_mem
  case m7 => k_mem
  case m8 => k_mem
  case m10 => k_mem
  case m11 => k_mem
  case m12 => k_mem
  case hr => exact fun p hp => by repeat (first | exact hp | refine List.Mem.tail _ ?_)
  case hD => assumption
  case hK => assumption
  case hlo2 => assumption
  case i1 => assumption
  case i2 => assumption
  case i3 => assumption
  case i4 => assumption
  case i5 => assumption
  case hI => exact hI9
  case b1 => omega
  case b2 => omega
  case b3 => omega
  case b4 => omega
  case b5 => omega
  case b6 => omega
  case b7 => first | omega | (split <;> (try simp only [List.length_append, List.length_cons, List.length_nil]) <;> omega) | (refine Nat.le_trans (List.length_filter_le _ _) ?_; omega)
  case b8 => first | omega | (simp only [List.length_append, List.length_cons, List.length_nil]; refine Nat.le_trans (Nat.add_le_add_right (List.length_filter_le _ _) _) ?_; omega) | (refine Nat.le_trans (List.length_filter_le _ _) ?_; omega)
  case b9 => first | omega | (simp only [List.length_append, List.length_cons, List.length_nil]; refine Nat.le_trans (Nat.add_le_add_left (List.length_filter_le _ _) _) ?_; omega) | (simp only [List.length_nil]; omega)
  case b10 => first | omega | (simp only [List.length_append, List.length_cons, List.length_nil]; omega) | (refine Nat.le_trans (List.length_filter_le _ _) ?_; omega) | (simp only [List.length_nil]; omega)
  case hnd =>
    simp only [List.nodup_cons, List.mem_cons, not_or, List.not_mem_nil, not_false_eq_true, List.nodup_nil, and_true, or_false]
    w_strict (repeat' (first | apply And.intro | k_ne))
  case hoff => w_strict (repeat' (first | exact off_nil | (refine off_cons ?_ ?_; k_all)))
  case hc => w_strict (refine List.forall_mem_cons.mpr ⟨by k_mem, ?_⟩; refine List.forall_mem_cons.mpr ⟨by k_mem, ?_⟩; refine List.forall_mem_cons.mpr ⟨by k_mem, ?_⟩; exact List.forall_mem_nil _)
  intro led8 hW8 N8 off8
  exact deed_end w Pn Pi Pd Mi Md H Bw W k1 k2 k3 kt y1 y2 y3 hh o1 o2 o3 hlo hW8 B kF X T hdN huN d2 d3 (by rfl) N8 (fun all m' h' tk' F' N' hs => ret _ all m' h' tk' hW8 F' N' hs off8)
local macro_rules | `(tactic| walk_at "call ref") => `(tactic| (k_here; (with_reducible show wpAny _ _ (call (Value.ref 209) _ _) _ _ _); (k_dflt (refine' use_octs ?kB ?kF ?kX ?kN ?kT ?kk ?m4 ?m5 ?m7 ?lo ?hD ?hM ?kd ?ku ?_; (case kB => k_asm); (case kF => k_asm); (case kX => k_asm); (case kN => k_asm); (case kT => k_asm); (case kk => first | exact rfl | assumption); (case m4 => k_mem); (case m5 => k_mem); (case m7 => k_mem); (case lo => assumption); (case hD => assumption); (case hM => assumption); (case kd => ktr_room); (case ku => ktr_units); intro D9 vs9 ep9 h9 tk9 F' N' n9 i9; (try dsimp only at N'); (try k_sweep)))))
set_option maxRecDepth 100000 in
set_option maxHeartbeats 8000000 in
theorem tail0 (w : World) {mean : ExcName → Option Value} {mg mb : Str → Option Value} {dp un : Nat} {gd : Option (List Code)} {cn : Str} {cs : Scope} {a : Addr} {ccd : Value} {cl : List (Str × Addr)} {outer : List Env} {base g : Heap} {L0 L : Addr} {rest : List (Addr × Obj)} {s : Shared} {Q : Flow → Shared → Prop} {E : Value → Shared → Prop} (Pn Pi Pd Mi Md H Bw W : Addr) (k1 k2 k3 kt : Tok) (y1 y2 y3 hh : Int) (KD PL WP WL WO : Addr) (st sd ct : Int) (t1 t2 t3 : Tok) (ep epl epb e1 e2 e3 : Nat) (oH oK oW : Obj) (l kl : List (Int × Int)) (vs bs vp vl vo : List Value) (ps bl wp wl wo : List Int) (pl : Int) (tw tp : Tok) (o1 o2 o3 : Obj) (n : Nat) (hn : n < 12) {rk : Nat → Nat} (r0 : Rk rk Pn 0) (r1 : Rk rk Pi 1) (r2 : Rk rk Pd 2) (r3 : Rk rk Mi 3) (r4 : Rk rk Md 4) (r5 : Rk rk H 5) (r6 : Rk rk KD 6) (r7 : Rk rk PL 7) (r8 : Rk rk Bw 8) (r9 : Rk rk W 9) (r10 : Rk rk WP 10) (r11 : Rk rk WL 11) (r12 : Rk rk WO 12)
    (x13 : Rk rk (L + 1) 13) (x14 : Rk rk (L + 2) 14) (x15 : Rk rk (L + 3) 15)
    (hlo : (H == sysModules) = false) (hst : 0 ≤ st) (hsd : 0 ≤ sd) (hsd2 : sd < 2147483647) (hct : 0 ≤ ct) (hct2 : ct ≤ 10 + 3 * (n : Int)) (hlo2 : (KD == sysModules) = false) (hD : DI w oH l) (hK : DI w oK kl) (hW : WI w oW WP WL WO) (hI : Inv (getI l) (getI kl) bl ps wp wl wo) (hl : l.length ≤ 500) (hps : ps.length ≤ n) (hwp : wp.length ≤ n) (hwl : wl.length ≤ 12 * n) (hwo : wo.length ≤ n) (i1 : IntsAre vs ps) (i2 : IntsAre bs bl) (i3 : IntsAre vp wp) (i4 : IntsAre vl wl) (i5 : IntsAre vo wo)
    (hoff : OwnOff rest [Pn, Pi, Pd, Mi, Md, H, KD, PL, Bw, W, WP, WL, WO, L + 1, L + 2, L + 3])
    (B : Below (ktrTop dp un gd cn cs L0 a ccd cl outer) base (envX cn cs L0 a ccd cl :: outer) g)
    (F : Fr g L s.heap (fun y => if y = PySem.Str.ofString "way" then some (.int 0 tw) else if y = PySem.Str.ofString "points" then some (.ref Pi) else if y = PySem.Str.ofString "pen" then some (.ref Pn) else none))
    (X : (hd.heap_39 w.params).In g) (T : Top hd.view_39 (looseW hd.view_39 []) mean mg mb g) (hdN : dp + 20 < recursionLimit) (huN : un + 200 < cLine)
    (d1 : o1.data = .cell (some (.int pl tp))) (d2 : o2.data = .cell (some (.ref W))) (d3 : o3.data = .cell (some (.ref Bw))) (p0 : 0 ≤ pl) (p1 : pl < 8)
    (N : News g L s.heap ((L + 3, o1) :: (L + 2, o2) :: (L + 1, o3) :: ([(Pn, listOf #[.int st t1, .int sd t2, .int ct t3] ep), (Pi, instObj 71 Pd), (Pd, dictOf [⟨y1, .str "memory" k1, .ref Mi⟩, ⟨y2, .str "places" k2, .ref PL⟩, ⟨y3, .str "kept" k3, .ref KD⟩] 3), (Mi, instObj 179 Md), (Md, dictOf [⟨hh, .str "held" kt, .ref H⟩] 1), (H, oH), (KD, oK), (PL, listOf (List.toArray vs) epl), (Bw, listOf (List.toArray bs) epb), (W, oW), (WP, listOf (List.toArray vp) e1), (WL, listOf (List.toArray vl) e2), (WO, listOf (List.toArray vo) e3)] ++ rest)))
    (ret : ∀ led' all m' h' tk', Wd w Pn Pi Pd Mi Md H Bw W k1 k2 k3 kt y1 y2 y3 hh (n + 1) led' → Fr g L h' m' → News g L h' all → (∀ p ∈ led' ++ rest, p ∈ all) → OwnOff rest (led'.map (·.1)) → Q (.ret (.bool true)) { s with heap := h', toks := tk' }) :
    wpAny (model PySem.Challenge.rw_qd0109_01.row.prog w) ((ktrTop dp un gd cn cs L0 a ccd cl outer).deeper (envOfC (PySem.Str.ofString "_law_deed") (fnAt w 214).scope L 214 (.ref 213))) (execs ((bodyAt w 214).drop 1) (envOfC (PySem.Str.ofString "_law_deed") (fnAt w 214).scope L 214 (.ref 213))) Q E s := by
  revert X
  k_fill
  intro X
  simp only [List.cons_append, List.nil_append] at N
  rw [show (bodyAt w 214).drop 1 = [_, _, _, _, _, _, _] from rfl, show (fnAt w 214).scope = Scope.mk _ _ _ _ _ from rfl]
  have q1 := hI.there
  have q2 : ∀ p, (getI kl p).isSome = true → 256 ≤ p ∧ p < 264 ∧ (getI l p).isSome = true := fun p hp => by
    obtain ⟨z1, z2, z3⟩ := hI.keys p hp
    have := hI.there (p - 256) (by omega) (by omega)
    rw [show 256 + (p - 256) = p by omega] at this
    exact ⟨z1, z2, this⟩
  have q3 : ∀ p ∈ ps, 256 ≤ p ∧ p < 264 ∧ (getI l p).isSome = true := fun p hp => by
    obtain ⟨z1, z2⟩ := hI.wpr _ ((hI.pw p).mp hp)
    have := hI.there (p - 256) z1 z2
    rw [show 256 + (p - 256) = p by omega] at this
    exact ⟨by omega, by omega, this⟩
  have q4 := few_DI hK fun p hp => ⟨(q2 p hp).1, (q2 p hp).2.1⟩
  w_on
  k_steps
  refine filter_src (ep := e1) (P := fun q => q != pl) trivial rfl (by k_asm) (by k_asm) ?hm7 i3 (arr_line i3 (by omega)) ?test7 ?fin7
  · k_mem
  · intro k t I oI C oC D m₂ ys h tk E' hk hC hx F' N' off ne
    k_steps
    exact ⟨rfl, _, _, rfl, by assumption, by assumption⟩
  intro g8 ys87 hys87
  k_steps
  refine Halt.out ?_
  rename Fr _ _ _ _ => kF
  rename News _ _ _ _ => kN
  refine' deed_pack (Pn := Pn) (Pi := Pi) (Pd := Pd) (Mi := Mi) (Md := Md) (H := H) (Bw := Bw) (W := W) (n := n) (rest := rest) (cells := [(_, o1), (_, o2), (_, o3)]) kN ?m2 ?m9 ?hW ?m0 ?m1 ?m3 ?m4 ?m5 ?m6 ?m7 ?m8 ?m10 ?m11 ?m12 ?hr ?hD ?hK ?hlo2 ?i1 ?i2 ?i3 ?i4 ?i5 ?hI ?b1 ?b2 ?b3 ?b4 ?b5 ?b6 ?b7 ?b8 ?b9 ?b10 ?hnd ?hoff ?hc ?next
  case m2 => k_mem
  case m9 => k_mem
  case hW => assumption
  case m0 => k_mem
  case m1 => k_mem
  case m3 => k_mem
  case m4 => k_mem
  case m5 => k_mem
  case m6 => k_mem
  case m7 => k_mem
  case m8 => k_mem
  case m10 => k_mem
  case m11 => k_mem
  case m12 => k_mem
  case hr => exact fun p hp => by repeat (first | exact hp | refine List.Mem.tail _ ?_)
  case hD => assumption
  case hK => assumption
  case hlo2 => assumption
  case i1 => assumption
  case i2 => assumption
  case i3 => assumption
  case i4 => assumption
  case i5 => assumption
  case hI => exact hI.put p0 p1
  case b1 => omega
  case b2 => omega
  case b3 => omega
  case b4 => omega
  case b5 => omega
  case b6 => omega
  case b7 => first | omega | (split <;> (try simp only [List.length_append, List.length_cons, List.length_nil]) <;> omega) | (refine Nat.le_trans (List.length_filter_le _ _) ?_; omega)
  case b8 => first | omega | (simp only [List.length_append, List.length_cons, List.length_nil]; refine Nat.le_trans (Nat.add_le_add_right (List.length_filter_le _ _) _) ?_; omega) | (refine Nat.le_trans (List.length_filter_le _ _) ?_; omega)
  case b9 => first | omega | (simp only [List.length_append, List.length_cons, List.length_nil]; refine Nat.le_trans (Nat.add_le_add_left (List.length_filter_le _ _) _) ?_; omega) | (simp only [List.length_nil]; omega)
  case b10 => first | omega | (simp only [List.length_append, List.length_cons, List.length_nil]; omega) | (refine Nat.le_trans (List.length_filter_le _ _) ?_; omega) | (simp only [List.length_nil]; omega)
  case hnd =>
    simp only [List.nodup_cons, List.mem_cons, not_or, List.not_mem_nil, not_false_eq_true, List.nodup_nil, and_true, or_false]
    w_strict (repeat' (first | apply And.intro | k_ne))
  case hoff => w_strict (repeat' (first | exact off_nil | (refine off_cons ?_ ?_; k_all)))
  case hc => w_strict (refine List.forall_mem_cons.mpr ⟨by k_mem, ?_⟩; refine List.forall_mem_cons.mpr ⟨by k_mem, ?_⟩; refine List.forall_mem_cons.mpr ⟨by k_mem, ?_⟩; exact List.forall_mem_nil _)
  intro led8 hW8 N8 off8
  exact deed_end w Pn Pi Pd Mi Md H Bw W k1 k2 k3 kt y1 y2 y3 hh o1 o2 o3 hlo hW8 B kF X T hdN huN d2 d3 (by rfl) N8 (fun all m' h' tk' F' N' hs => ret _ all m' h' tk' hW8 F' N' hs off8)
set_option maxRecDepth 100000 in
set_option maxHeartbeats 8000000 in
theorem tail1 (w : World) {mean : ExcName → Option Value} {mg mb : Str → Option Value} {dp un : Nat} {gd : Option (List Code)} {cn : Str} {cs : Scope} {a : Addr} {ccd : Value} {cl : List (Str × Addr)} {outer : List Env} {base g : Heap} {L0 L : Addr} {rest : List (Addr × Obj)} {s : Shared} {Q : Flow → Shared → Prop} {E : Value → Shared → Prop} (Pn Pi Pd Mi Md H Bw W : Addr) (k1 k2 k3 kt : Tok) (y1 y2 y3 hh : Int) (KD PL WP WL WO : Addr) (st sd ct : Int) (t1 t2 t3 : Tok) (ep epl epb e1 e2 e3 : Nat) (oH oK oW : Obj) (l kl : List (Int × Int)) (vs bs vp vl vo : List Value) (ps bl wp wl wo : List Int) (pl : Int) (tw tp : Tok) (o1 o2 o3 : Obj) (n : Nat) (hn : n < 12) {rk : Nat → Nat} (r0 : Rk rk Pn 0) (r1 : Rk rk Pi 1) (r2 : Rk rk Pd 2) (r3 : Rk rk Mi 3) (r4 : Rk rk Md 4) (r5 : Rk rk H 5) (r6 : Rk rk KD 6) (r7 : Rk rk PL 7) (r8 : Rk rk Bw 8) (r9 : Rk rk W 9) (r10 : Rk rk WP 10) (r11 : Rk rk WL 11) (r12 : Rk rk WO 12)
    (x13 : Rk rk (L + 1) 13) (x14 : Rk rk (L + 2) 14) (x15 : Rk rk (L + 3) 15)
    (hlo : (H == sysModules) = false) (hst : 0 ≤ st) (hsd : 0 ≤ sd) (hsd2 : sd < 2147483647) (hct : 0 ≤ ct) (hct2 : ct ≤ 10 + 3 * (n : Int)) (hlo2 : (KD == sysModules) = false) (hD : DI w oH l) (hK : DI w oK kl) (hW : WI w oW WP WL WO) (hI : Inv (getI l) (getI kl) bl ps wp wl wo) (hl : l.length ≤ 500) (hps : ps.length ≤ n) (hwp : wp.length ≤ n) (hwl : wl.length ≤ 12 * n) (hwo : wo.length ≤ n) (i1 : IntsAre vs ps) (i2 : IntsAre bs bl) (i3 : IntsAre vp wp) (i4 : IntsAre vl wl) (i5 : IntsAre vo wo)
    (hoff : OwnOff rest [Pn, Pi, Pd, Mi, Md, H, KD, PL, Bw, W, WP, WL, WO, L + 1, L + 2, L + 3])
    (B : Below (ktrTop dp un gd cn cs L0 a ccd cl outer) base (envX cn cs L0 a ccd cl :: outer) g)
    (F : Fr g L s.heap (fun y => if y = PySem.Str.ofString "way" then some (.int 1 tw) else if y = PySem.Str.ofString "points" then some (.ref Pi) else if y = PySem.Str.ofString "pen" then some (.ref Pn) else none))
    (X : (hd.heap_39 w.params).In g) (T : Top hd.view_39 (looseW hd.view_39 []) mean mg mb g) (hdN : dp + 20 < recursionLimit) (huN : un + 200 < cLine)
    (d1 : o1.data = .cell (some (.int pl tp))) (d2 : o2.data = .cell (some (.ref W))) (d3 : o3.data = .cell (some (.ref Bw))) (p0 : 0 ≤ pl) (p1 : pl < 8)
    (N : News g L s.heap ((L + 3, o1) :: (L + 2, o2) :: (L + 1, o3) :: ([(Pn, listOf #[.int st t1, .int sd t2, .int ct t3] ep), (Pi, instObj 71 Pd), (Pd, dictOf [⟨y1, .str "memory" k1, .ref Mi⟩, ⟨y2, .str "places" k2, .ref PL⟩, ⟨y3, .str "kept" k3, .ref KD⟩] 3), (Mi, instObj 179 Md), (Md, dictOf [⟨hh, .str "held" kt, .ref H⟩] 1), (H, oH), (KD, oK), (PL, listOf (List.toArray vs) epl), (Bw, listOf (List.toArray bs) epb), (W, oW), (WP, listOf (List.toArray vp) e1), (WL, listOf (List.toArray vl) e2), (WO, listOf (List.toArray vo) e3)] ++ rest)))
    (ret : ∀ led' all m' h' tk', Wd w Pn Pi Pd Mi Md H Bw W k1 k2 k3 kt y1 y2 y3 hh (n + 1) led' → Fr g L h' m' → News g L h' all → (∀ p ∈ led' ++ rest, p ∈ all) → OwnOff rest (led'.map (·.1)) → Q (.ret (.bool true)) { s with heap := h', toks := tk' }) :
    wpAny (model PySem.Challenge.rw_qd0109_01.row.prog w) ((ktrTop dp un gd cn cs L0 a ccd cl outer).deeper (envOfC (PySem.Str.ofString "_law_deed") (fnAt w 214).scope L 214 (.ref 213))) (execs ((bodyAt w 214).drop 1) (envOfC (PySem.Str.ofString "_law_deed") (fnAt w 214).scope L 214 (.ref 213))) Q E s := by
  revert X
  k_fill
  intro X
  simp only [List.cons_append, List.nil_append] at N
  rw [show (bodyAt w 214).drop 1 = [_, _, _, _, _, _, _] from rfl, show (fnAt w 214).scope = Scope.mk _ _ _ _ _ from rfl]
  have q1 := hI.there
  have q2 : ∀ p, (getI kl p).isSome = true → 256 ≤ p ∧ p < 264 ∧ (getI l p).isSome = true := fun p hp => by
    obtain ⟨z1, z2, z3⟩ := hI.keys p hp
    have := hI.there (p - 256) (by omega) (by omega)
    rw [show 256 + (p - 256) = p by omega] at this
    exact ⟨z1, z2, this⟩
  have q3 : ∀ p ∈ ps, 256 ≤ p ∧ p < 264 ∧ (getI l p).isSome = true := fun p hp => by
    obtain ⟨z1, z2⟩ := hI.wpr _ ((hI.pw p).mp hp)
    have := hI.there (p - 256) z1 z2
    rw [show 256 + (p - 256) = p by omega] at this
    exact ⟨by omega, by omega, this⟩
  have q4 := few_DI hK fun p hp => ⟨(q2 p hp).1, (q2 p hp).2.1⟩
  w_on
  k_steps
  refine filter_src (ep := e1) (P := fun q => q != pl) trivial rfl (by k_asm) (by k_asm) ?hm7 i3 (arr_line i3 (by omega)) ?test7 ?fin7
  · k_mem
  · intro k t I oI C oC D m₂ ys h tk E' hk hC hx F' N' off ne
    k_steps
    exact ⟨rfl, _, _, rfl, by assumption, by assumption⟩
  intro g8 ys87 hys87
  k_steps
  refine Halt.out ?_
  rename Fr _ _ _ _ => kF
  rename News _ _ _ _ => kN
  refine' deed_pack (Pn := Pn) (Pi := Pi) (Pd := Pd) (Mi := Mi) (Md := Md) (H := H) (Bw := Bw) (W := W) (n := n) (rest := rest) (cells := [(_, o1), (_, o2), (_, o3)]) kN ?m2 ?m9 ?hW ?m0 ?m1 ?m3 ?m4 ?m5 ?m6 ?m7 ?m8 ?m10 ?m11 ?m12 ?hr ?hD ?hK ?hlo2 ?i1 ?i2 ?i3 ?i4 ?i5 ?hI ?b1 ?b2 ?b3 ?b4 ?b5 ?b6 ?b7 ?b8 ?b9 ?b10 ?hnd ?hoff ?hc ?next
  case m2 => k_mem
  case m9 => k_mem
  case hW => assumption
  case m0 => k_mem
  case m1 => k_mem
  case m3 => k_mem
  case m4 => k_mem
  case m5 => k_mem
  case m6 => k_mem
  case m7 => k_mem
  case m8 => k_mem
  case m10 => k_mem
  case m11 => k_mem
  case m12 => k_mem
  case hr => exact fun p hp => by repeat (first | exact hp | refine List.Mem.tail _ ?_)
  case hD => assumption
  case hK => assumption
  case hlo2 => assumption
  case i1 => assumption
  case i2 => assumption
  case i3 => assumption
  case i4 => assumption
  case i5 => assumption
  case hI => exact hI.drop pl
  case b1 => omega
  case b2 => omega
  case b3 => omega
  case b4 => omega
  case b5 => omega
  case b6 => omega
  case b7 => first | omega | (split <;> (try simp only [List.length_append, List.length_cons, List.length_nil]) <;> omega) | (refine Nat.le_trans (List.length_filter_le _ _) ?_; omega)
  case b8 => first | omega | (simp only [List.length_append, List.length_cons, List.length_nil]; refine Nat.le_trans (Nat.add_le_add_right (List.length_filter_le _ _) _) ?_; omega) | (refine Nat.le_trans (List.length_filter_le _ _) ?_; omega)
  case b9 => first | omega | (simp only [List.length_append, List.length_cons, List.length_nil]; refine Nat.le_trans (Nat.add_le_add_left (List.length_filter_le _ _) _) ?_; omega) | (simp only [List.length_nil]; omega)
  case b10 => first | omega | (simp only [List.length_append, List.length_cons, List.length_nil]; omega) | (refine Nat.le_trans (List.length_filter_le _ _) ?_; omega) | (simp only [List.length_nil]; omega)
  case hnd =>
    simp only [List.nodup_cons, List.mem_cons, not_or, List.not_mem_nil, not_false_eq_true, List.nodup_nil, and_true, or_false]
    w_strict (repeat' (first | apply And.intro | k_ne))
  case hoff => w_strict (repeat' (first | exact off_nil | (refine off_cons ?_ ?_; k_all)))
  case hc => w_strict (refine List.forall_mem_cons.mpr ⟨by k_mem, ?_⟩; refine List.forall_mem_cons.mpr ⟨by k_mem, ?_⟩; refine List.forall_mem_cons.mpr ⟨by k_mem, ?_⟩; exact List.forall_mem_nil _)
  intro led8 hW8 N8 off8
  exact deed_end w Pn Pi Pd Mi Md H Bw W k1 k2 k3 kt y1 y2 y3 hh o1 o2 o3 hlo hW8 B kF X T hdN huN d2 d3 (by rfl) N8 (fun all m' h' tk' F' N' hs => ret _ all m' h' tk' hW8 F' N' hs off8)
set_option maxRecDepth 100000 in
set_option maxHeartbeats 8000000 in
theorem tail2 (w : World) {mean : ExcName → Option Value} {mg mb : Str → Option Value} {dp un : Nat} {gd : Option (List Code)} {cn : Str} {cs : Scope} {a : Addr} {ccd : Value} {cl : List (Str × Addr)} {outer : List Env} {base g : Heap} {L0 L : Addr} {rest : List (Addr × Obj)} {s : Shared} {Q : Flow → Shared → Prop} {E : Value → Shared → Prop} (Pn Pi Pd Mi Md H Bw W : Addr) (k1 k2 k3 kt : Tok) (y1 y2 y3 hh : Int) (KD PL WP WL WO : Addr) (st sd ct : Int) (t1 t2 t3 : Tok) (ep epl epb e1 e2 e3 : Nat) (oH oK oW : Obj) (l kl : List (Int × Int)) (vs bs vp vl vo : List Value) (ps bl wp wl wo : List Int) (pl : Int) (tw tp : Tok) (o1 o2 o3 : Obj) (n : Nat) (hn : n < 12) {rk : Nat → Nat} (r0 : Rk rk Pn 0) (r1 : Rk rk Pi 1) (r2 : Rk rk Pd 2) (r3 : Rk rk Mi 3) (r4 : Rk rk Md 4) (r5 : Rk rk H 5) (r6 : Rk rk KD 6) (r7 : Rk rk PL 7) (r8 : Rk rk Bw 8) (r9 : Rk rk W 9) (r10 : Rk rk WP 10) (r11 : Rk rk WL 11) (r12 : Rk rk WO 12)
    (x13 : Rk rk (L + 1) 13) (x14 : Rk rk (L + 2) 14) (x15 : Rk rk (L + 3) 15)
    (hlo : (H == sysModules) = false) (hst : 0 ≤ st) (hsd : 0 ≤ sd) (hsd2 : sd < 2147483647) (hct : 0 ≤ ct) (hct2 : ct ≤ 10 + 3 * (n : Int)) (hlo2 : (KD == sysModules) = false) (hD : DI w oH l) (hK : DI w oK kl) (hW : WI w oW WP WL WO) (hI : Inv (getI l) (getI kl) bl ps wp wl wo) (hl : l.length ≤ 500) (hps : ps.length ≤ n) (hwp : wp.length ≤ n) (hwl : wl.length ≤ 12 * n) (hwo : wo.length ≤ n) (i1 : IntsAre vs ps) (i2 : IntsAre bs bl) (i3 : IntsAre vp wp) (i4 : IntsAre vl wl) (i5 : IntsAre vo wo)
    (hoff : OwnOff rest [Pn, Pi, Pd, Mi, Md, H, KD, PL, Bw, W, WP, WL, WO, L + 1, L + 2, L + 3])
    (B : Below (ktrTop dp un gd cn cs L0 a ccd cl outer) base (envX cn cs L0 a ccd cl :: outer) g)
    (F : Fr g L s.heap (fun y => if y = PySem.Str.ofString "way" then some (.int 2 tw) else if y = PySem.Str.ofString "points" then some (.ref Pi) else if y = PySem.Str.ofString "pen" then some (.ref Pn) else none))
    (X : (hd.heap_39 w.params).In g) (T : Top hd.view_39 (looseW hd.view_39 []) mean mg mb g) (hdN : dp + 20 < recursionLimit) (huN : un + 200 < cLine)
    (d1 : o1.data = .cell (some (.int pl tp))) (d2 : o2.data = .cell (some (.ref W))) (d3 : o3.data = .cell (some (.ref Bw))) (p0 : 0 ≤ pl) (p1 : pl < 8)
    (N : News g L s.heap ((L + 3, o1) :: (L + 2, o2) :: (L + 1, o3) :: ([(Pn, listOf #[.int st t1, .int sd t2, .int ct t3] ep), (Pi, instObj 71 Pd), (Pd, dictOf [⟨y1, .str "memory" k1, .ref Mi⟩, ⟨y2, .str "places" k2, .ref PL⟩, ⟨y3, .str "kept" k3, .ref KD⟩] 3), (Mi, instObj 179 Md), (Md, dictOf [⟨hh, .str "held" kt, .ref H⟩] 1), (H, oH), (KD, oK), (PL, listOf (List.toArray vs) epl), (Bw, listOf (List.toArray bs) epb), (W, oW), (WP, listOf (List.toArray vp) e1), (WL, listOf (List.toArray vl) e2), (WO, listOf (List.toArray vo) e3)] ++ rest)))
    (ret : ∀ led' all m' h' tk', Wd w Pn Pi Pd Mi Md H Bw W k1 k2 k3 kt y1 y2 y3 hh (n + 1) led' → Fr g L h' m' → News g L h' all → (∀ p ∈ led' ++ rest, p ∈ all) → OwnOff rest (led'.map (·.1)) → Q (.ret (.bool true)) { s with heap := h', toks := tk' }) :
    wpAny (model PySem.Challenge.rw_qd0109_01.row.prog w) ((ktrTop dp un gd cn cs L0 a ccd cl outer).deeper (envOfC (PySem.Str.ofString "_law_deed") (fnAt w 214).scope L 214 (.ref 213))) (execs ((bodyAt w 214).drop 1) (envOfC (PySem.Str.ofString "_law_deed") (fnAt w 214).scope L 214 (.ref 213))) Q E s := by
  revert X
  k_fill
  intro X
  simp only [List.cons_append, List.nil_append] at N
  rw [show (bodyAt w 214).drop 1 = [_, _, _, _, _, _, _] from rfl, show (fnAt w 214).scope = Scope.mk _ _ _ _ _ from rfl]
  have q1 := hI.there
  have q2 : ∀ p, (getI kl p).isSome = true → 256 ≤ p ∧ p < 264 ∧ (getI l p).isSome = true := fun p hp => by
    obtain ⟨z1, z2, z3⟩ := hI.keys p hp
    have := hI.there (p - 256) (by omega) (by omega)
    rw [show 256 + (p - 256) = p by omega] at this
    exact ⟨z1, z2, this⟩
  have q3 : ∀ p ∈ ps, 256 ≤ p ∧ p < 264 ∧ (getI l p).isSome = true := fun p hp => by
    obtain ⟨z1, z2⟩ := hI.wpr _ ((hI.pw p).mp hp)
    have := hI.there (p - 256) z1 z2
    rw [show 256 + (p - 256) = p by omega] at this
    exact ⟨by omega, by omega, this⟩
  have q4 := few_DI hK fun p hp => ⟨(q2 p hp).1, (q2 p hp).2.1⟩
  w_on
  k_steps
  rename_i oH9 l9 oK9 kl9 h9 tk9 F9 N9 d9 d8 e9 e8 e7
  have hI9 := hI.plant e8 e7
  refine filter_src (ep := e1) (P := fun q => !(wl.any fun x => x == q)) trivial rfl (by k_asm) (by k_asm) ?hm7 i3 (arr_line i3 (by omega)) ?test7 ?fin7
  · k_mem
  · intro k t I oI C oC D m₂ ys h tk E' hk hC hx F' N' off ne
    k_steps
    exact ⟨rfl, _, _, rfl, by assumption, by assumption⟩
  intro g8 ys87 hys87
  k_steps
  refine filter_src (ep := e3) (P := fun q => !(wp.any fun x => x == q)) trivial rfl (by k_asm) (by k_asm) ?hm6 i5 (arr_line i5 (by omega)) ?test6 ?fin6
  · k_mem
  · intro k t I oI C oC D m₂ ys h tk E' hk hC hx F' N' off ne
    k_steps
    exact ⟨rfl, _, _, rfl, by assumption, by assumption⟩
  intro g8 ys86 hys86
  k_steps
  refine Halt.out ?_
  rename Fr _ _ _ _ => kF
  rename News _ _ _ _ => kN
  refine' deed_pack (Pn := Pn) (Pi := Pi) (Pd := Pd) (Mi := Mi) (Md := Md) (H := H) (Bw := Bw) (W := W) (n := n) (rest := rest) (cells := [(_, o1), (_, o2), (_, o3)]) kN ?m2 ?m9 ?hW ?m0 ?m1 ?m3 ?m4 ?m5 ?m6 ?m7 ?m8 ?m10 ?m11 ?m12 ?hr ?hD ?hK ?hlo2 ?i1 ?i2 ?i3 ?i4 ?i5 ?hI ?b1 ?b2 ?b3 ?b4 ?b5 ?b6 ?b7 ?b8 ?b9 ?b10 ?hnd ?hoff ?hc ?next
  case m2 => k_mem
  case m9 => k_mem
  case hW => assumption
  case m0 => k_mem
  case m1 => k_mem
  case m3 => k_mem
  case m4 => k_mem
  case m5 => k_mem
  case m6 => k_mem
  case m7 => k_mem
  case m8 => k_mem
  case m10 => k_mem
  case m11 => k_mem
  case m12 => k_mem
  case hr => exact fun p hp => by repeat (first | exact hp | refine List.Mem.tail _ ?_)
  case hD => assumption
  case hK => assumption
  case hlo2 => assumption
  case i1 => assumption
  case i2 => assumption
  case i3 => assumption
  case i4 => assumption
  case i5 => assumption
  case hI => exact hI9
  case b1 => omega
  case b2 => omega
  case b3 => omega
  case b4 => omega
  case b5 => omega
  case b6 => omega
  case b7 => first | omega | (split <;> (try simp only [List.length_append, List.length_cons, List.length_nil]) <;> omega) | (refine Nat.le_trans (List.length_filter_le _ _) ?_; omega)
  case b8 => first | omega | (simp only [List.length_append, List.length_cons, List.length_nil]; refine Nat.le_trans (Nat.add_le_add_right (List.length_filter_le _ _) _) ?_; omega) | (refine Nat.le_trans (List.length_filter_le _ _) ?_; omega)
  case b9 => first | omega | (simp only [List.length_append, List.length_cons, List.length_nil]; refine Nat.le_trans (Nat.add_le_add_left (List.length_filter_le _ _) _) ?_; omega) | (simp only [List.length_nil]; omega)
  case b10 => first | omega | (simp only [List.length_append, List.length_cons, List.length_nil]; omega) | (refine Nat.le_trans (List.length_filter_le _ _) ?_; omega) | (simp only [List.length_nil]; omega)
  case hnd =>
    simp only [List.nodup_cons, List.mem_cons, not_or, List.not_mem_nil, not_false_eq_true, List.nodup_nil, and_true, or_false]
    w_strict (repeat' (first | apply And.intro | k_ne))
  case hoff => w_strict (repeat' (first | exact off_nil | (refine off_cons ?_ ?_; k_all)))
  case hc => w_strict (refine List.forall_mem_cons.mpr ⟨by k_mem, ?_⟩; refine List.forall_mem_cons.mpr ⟨by k_mem, ?_⟩; refine List.forall_mem_cons.mpr ⟨by k_mem, ?_⟩; exact List.forall_mem_nil _)
  intro led8 hW8 N8 off8
  exact deed_end w Pn Pi Pd Mi Md H Bw W k1 k2 k3 kt y1 y2 y3 hh o1 o2 o3 hlo hW8 B kF X T hdN huN d2 d3 (by rfl) N8 (fun all m' h' tk' F' N' hs => ret _ all m' h' tk' hW8 F' N' hs off8)
set_option maxRecDepth 100000 in
set_option maxHeartbeats 8000000 in
theorem tail5 (w : World) {mean : ExcName → Option Value} {mg mb : Str → Option Value} {dp un : Nat} {gd : Option (List Code)} {cn : Str} {cs : Scope} {a : Addr} {ccd : Value} {cl : List (Str × Addr)} {outer : List Env} {base g : Heap} {L0 L : Addr} {rest : List (Addr × Obj)} {s : Shared} {Q : Flow → Shared → Prop} {E : Value → Shared → Prop} (Pn Pi Pd Mi Md H Bw W : Addr) (k1 k2 k3 kt : Tok) (y1 y2 y3 hh : Int) (KD PL WP WL WO : Addr) (st sd ct : Int) (t1 t2 t3 : Tok) (ep epl epb e1 e2 e3 : Nat) (oH oK oW : Obj) (l kl : List (Int × Int)) (vs bs vp vl vo : List Value) (ps bl wp wl wo : List Int) (pl : Int) (tw tp : Tok) (o1 o2 o3 : Obj) (n : Nat) (hn : n < 12) {rk : Nat → Nat} (r0 : Rk rk Pn 0) (r1 : Rk rk Pi 1) (r2 : Rk rk Pd 2) (r3 : Rk rk Mi 3) (r4 : Rk rk Md 4) (r5 : Rk rk H 5) (r6 : Rk rk KD 6) (r7 : Rk rk PL 7) (r8 : Rk rk Bw 8) (r9 : Rk rk W 9) (r10 : Rk rk WP 10) (r11 : Rk rk WL 11) (r12 : Rk rk WO 12)
    (x13 : Rk rk (L + 1) 13) (x14 : Rk rk (L + 2) 14) (x15 : Rk rk (L + 3) 15)
    (hlo : (H == sysModules) = false) (hst : 0 ≤ st) (hsd : 0 ≤ sd) (hsd2 : sd < 2147483647) (hct : 0 ≤ ct) (hct2 : ct ≤ 10 + 3 * (n : Int)) (hlo2 : (KD == sysModules) = false) (hD : DI w oH l) (hK : DI w oK kl) (hW : WI w oW WP WL WO) (hI : Inv (getI l) (getI kl) bl ps wp wl wo) (hl : l.length ≤ 500) (hps : ps.length ≤ n) (hwp : wp.length ≤ n) (hwl : wl.length ≤ 12 * n) (hwo : wo.length ≤ n) (i1 : IntsAre vs ps) (i2 : IntsAre bs bl) (i3 : IntsAre vp wp) (i4 : IntsAre vl wl) (i5 : IntsAre vo wo)
    (hoff : OwnOff rest [Pn, Pi, Pd, Mi, Md, H, KD, PL, Bw, W, WP, WL, WO, L + 1, L + 2, L + 3])
    (B : Below (ktrTop dp un gd cn cs L0 a ccd cl outer) base (envX cn cs L0 a ccd cl :: outer) g)
    (F : Fr g L s.heap (fun y => if y = PySem.Str.ofString "way" then some (.int 5 tw) else if y = PySem.Str.ofString "points" then some (.ref Pi) else if y = PySem.Str.ofString "pen" then some (.ref Pn) else none))
    (X : (hd.heap_39 w.params).In g) (T : Top hd.view_39 (looseW hd.view_39 []) mean mg mb g) (hdN : dp + 20 < recursionLimit) (huN : un + 200 < cLine)
    (d1 : o1.data = .cell (some (.int pl tp))) (d2 : o2.data = .cell (some (.ref W))) (d3 : o3.data = .cell (some (.ref Bw))) (p0 : 0 ≤ pl) (p1 : pl < 8)
    (N : News g L s.heap ((L + 3, o1) :: (L + 2, o2) :: (L + 1, o3) :: ([(Pn, listOf #[.int st t1, .int sd t2, .int ct t3] ep), (Pi, instObj 71 Pd), (Pd, dictOf [⟨y1, .str "memory" k1, .ref Mi⟩, ⟨y2, .str "places" k2, .ref PL⟩, ⟨y3, .str "kept" k3, .ref KD⟩] 3), (Mi, instObj 179 Md), (Md, dictOf [⟨hh, .str "held" kt, .ref H⟩] 1), (H, oH), (KD, oK), (PL, listOf (List.toArray vs) epl), (Bw, listOf (List.toArray bs) epb), (W, oW), (WP, listOf (List.toArray vp) e1), (WL, listOf (List.toArray vl) e2), (WO, listOf (List.toArray vo) e3)] ++ rest)))
    (ret : ∀ led' all m' h' tk', Wd w Pn Pi Pd Mi Md H Bw W k1 k2 k3 kt y1 y2 y3 hh (n + 1) led' → Fr g L h' m' → News g L h' all → (∀ p ∈ led' ++ rest, p ∈ all) → OwnOff rest (led'.map (·.1)) → Q (.ret (.bool true)) { s with heap := h', toks := tk' }) :
    wpAny (model PySem.Challenge.rw_qd0109_01.row.prog w) ((ktrTop dp un gd cn cs L0 a ccd cl outer).deeper (envOfC (PySem.Str.ofString "_law_deed") (fnAt w 214).scope L 214 (.ref 213))) (execs ((bodyAt w 214).drop 1) (envOfC (PySem.Str.ofString "_law_deed") (fnAt w 214).scope L 214 (.ref 213))) Q E s := by
  revert X
  k_fill
  intro X
  simp only [List.cons_append, List.nil_append] at N
  rw [show (bodyAt w 214).drop 1 = [_, _, _, _, _, _, _] from rfl, show (fnAt w 214).scope = Scope.mk _ _ _ _ _ from rfl]
  have q1 := hI.there
  have q2 : ∀ p, (getI kl p).isSome = true → 256 ≤ p ∧ p < 264 ∧ (getI l p).isSome = true := fun p hp => by
    obtain ⟨z1, z2, z3⟩ := hI.keys p hp
    have := hI.there (p - 256) (by omega) (by omega)
    rw [show 256 + (p - 256) = p by omega] at this
    exact ⟨z1, z2, this⟩
  have q3 : ∀ p ∈ ps, 256 ≤ p ∧ p < 264 ∧ (getI l p).isSome = true := fun p hp => by
    obtain ⟨z1, z2⟩ := hI.wpr _ ((hI.pw p).mp hp)
    have := hI.there (p - 256) z1 z2
    rw [show 256 + (p - 256) = p by omega] at this
    exact ⟨by omega, by omega, this⟩
  have q4 := few_DI hK fun p hp => ⟨(q2 p hp).1, (q2 p hp).2.1⟩
  w_on
  k_steps
  refine Halt.out ?_
  rename Fr _ _ _ _ => kF
  rename News _ _ _ _ => kN
  refine' deed_pack (Pn := Pn) (Pi := Pi) (Pd := Pd) (Mi := Mi) (Md := Md) (H := H) (Bw := Bw) (W := W) (n := n) (rest := rest) (cells := [(_, o1), (_, o2), (_, o3)]) kN ?m2 ?m9 ?hW ?m0 ?m1 ?m3 ?m4 ?m5 ?m6 ?m7 ?m8 ?m10 ?m11 ?m12 ?hr ?hD ?hK ?hlo2 ?i1 ?i2 ?i3 ?i4 ?i5 ?hI ?b1 ?b2 ?b3 ?b4 ?b5 ?b6 ?b7 ?b8 ?b9 ?b10 ?hnd ?hoff ?hc ?next
  case m2 => k_mem
  case m9 => k_mem
  case hW => assumption
  case m0 => k_mem
  case m1 => k_mem
  case m3 => k_mem
  case m4 => k_mem
  case m5 => k_mem
  case m6 => k_mem
  case m7 => k_mem
  case m8 => k_mem
  case m10 => k_mem
  case m11 => k_mem
  case m12 => k_mem
  case hr => exact fun p hp => by repeat (first | exact hp | refine List.Mem.tail _ ?_)
  case hD => assumption
  case hK => assumption
  case hlo2 => assumption
  case i1 => assumption
  case i2 => assumption
  case i3 => assumption
  case i4 => assumption
  case i5 => assumption
  case hI => exact hI
  case b1 => omega
  case b2 => omega
  case b3 => omega
  case b4 => omega
  case b5 => omega
  case b6 => omega
  case b7 => first | omega | (split <;> (try simp only [List.length_append, List.length_cons, List.length_nil]) <;> omega) | (refine Nat.le_trans (List.length_filter_le _ _) ?_; omega)
  case b8 => first | omega | (simp only [List.length_append, List.length_cons, List.length_nil]; refine Nat.le_trans (Nat.add_le_add_right (List.length_filter_le _ _) _) ?_; omega) | (refine Nat.le_trans (List.length_filter_le _ _) ?_; omega)
  case b9 => first | omega | (simp only [List.length_append, List.length_cons, List.length_nil]; refine Nat.le_trans (Nat.add_le_add_left (List.length_filter_le _ _) _) ?_; omega) | (simp only [List.length_nil]; omega)
  case b10 => first | omega | (simp only [List.length_append, List.length_cons, List.length_nil]; omega) | (refine Nat.le_trans (List.length_filter_le _ _) ?_; omega) | (simp only [List.length_nil]; omega)
  case hnd =>
    simp only [List.nodup_cons, List.mem_cons, not_or, List.not_mem_nil, not_false_eq_true, List.nodup_nil, and_true, or_false]
    w_strict (repeat' (first | apply And.intro | k_ne))
  case hoff => w_strict (repeat' (first | exact off_nil | (refine off_cons ?_ ?_; k_all)))
  case hc => w_strict (refine List.forall_mem_cons.mpr ⟨by k_mem, ?_⟩; refine List.forall_mem_cons.mpr ⟨by k_mem, ?_⟩; refine List.forall_mem_cons.mpr ⟨by k_mem, ?_⟩; exact List.forall_mem_nil _)
  intro led8 hW8 N8 off8
  exact deed_end w Pn Pi Pd Mi Md H Bw W k1 k2 k3 kt y1 y2 y3 hh o1 o2 o3 hlo hW8 B kF X T hdN huN d2 d3 (by rfl) N8 (fun all m' h' tk' F' N' hs => ret _ all m' h' tk' hW8 F' N' hs off8)
local macro_rules | `(tactic| walk_at "newTuple") => `(tactic| (k_here; k_dflt (refine' kup_newTuple ?F ?N ?_ ?z; (case F => k_asm); (case N => k_asm); (case z => kmk_size)); intro D' h' F' N' l1; (replace l1 := off1_all l1); (try k_sweep)))
local macro_rules | `(tactic| walk_at "execs cons") => `(tactic| (k_here; (rename LCg.Off1 _ _ => o19); refine Halt.mk ?_))
set_option maxRecDepth 100000 in
set_option maxHeartbeats 8000000 in
theorem deed_call (w : World) {mean : ExcName → Option Value} {mg mb : Str → Option Value} {dp un : Nat} {gd : Option (List Code)} {cn : Str} {cs : Scope} {a : Addr} {ccd : Value} {cl : List (Str × Addr)} {outer : List Env} {A₀ : Around} {base h₀ : Heap} {L : Addr} {m : Str → Option Value} {rest led : List (Addr × Obj)} {s : Shared} {Q E : Value → Shared → Prop} (Pn Pi Pd Mi Md H Bw W : Addr) (k1 k2 k3 kt : Tok) (y1 y2 y3 hh : Int) {n : Nat} (hn : n < 12) (hlo : (H == sysModules) = false) (hWd : Wd w Pn Pi Pd Mi Md H Bw W k1 k2 k3 kt y1 y2 y3 hh n led)
    (B : Below A₀ base outer h₀) (F : Fr h₀ L s.heap m) (X : (hd.heap_39 w.params).In h₀) (N : News h₀ L s.heap (led ++ rest)) (T : Top hd.view_39 (looseW hd.view_39 []) mean mg mb h₀) (hk : cs.kind = .function)
    (hoff : OwnOff rest (led.map (·.1))) (hdN : dp + 40 < recursionLimit) (huN : un + 400 < cLine)
    (ret : ∀ led' h' tk', Wd w Pn Pi Pd Mi Md H Bw W k1 k2 k3 kt y1 y2 y3 hh (n + 1) led' → Fr h₀ L h' m → News h₀ L h' (led' ++ rest) → OwnOff rest (led'.map (·.1)) → Q (.bool true) { s with heap := h', toks := tk' }) :
    wpAny (model PySem.Challenge.rw_qd0109_01.row.prog w) (ktrTop dp un gd cn cs L a ccd cl outer) (call (.ref 214) [.ref Pn, .ref Pi, .ref Bw, .ref W]) Q E s := by
  revert X
  k_fill
  intro X
  obtain ⟨KD, PL, WP, WL, WO, st, sd, ct, t1, t2, t3, ep, epl, epb, e1, e2, e3, oH, oK, oW, l, kl, vs, bs, vp, vl, vo, ps, bl, wp, wl, wo, rfl, hnd, hst, hsd, hsd2, hct, hct2, hlo2, hD, hK, hW, hI, hl, hps, hwp, hwl, hwo, i1, i2, i3, i4, i5⟩ := hWd
  have r0 := rk_at hnd 0 rfl
  have r1 := rk_at hnd 1 rfl
  have r2 := rk_at hnd 2 rfl
  have r3 := rk_at hnd 3 rfl
  have r4 := rk_at hnd 4 rfl
  have r5 := rk_at hnd 5 rfl
  have r6 := rk_at hnd 6 rfl
  have r7 := rk_at hnd 7 rfl
  have r8 := rk_at hnd 8 rfl
  have r9 := rk_at hnd 9 rfl
  have r10 := rk_at hnd 10 rfl
  have r11 := rk_at hnd 11 rfl
  have r12 := rk_at hnd 12 rfl
  simp only [List.cons_append, List.nil_append] at N
  simp only [List.map_cons, List.map_nil] at hoff
  w_on
  refine wpAny_call ?_
  k_dflt (refine' code_defC ?k1 ?k2 ?k3 ?k4 ?k5 ?kA ?kF ?kK ?k6 ?k7 ?k8 ?k9 ?kB ?kD ?_ ?c2 ?c3 ?c4; (case kA => exact rfl); (case kF => exact rfl); (case kK => assumption); (case k1 => k_asm); (case k2 => k_asm); (case k3 => k_asm); (case k4 => k_asm); (case k5 => k_asm); (case k6 => k_is); (case k7 => k_is); (case k8 => ktr_room); (case k9 => exact BindsTo.of_eq rfl); (case kB => exact rfl); (case kD => decide +kernel); (case c2 => exact rfl); (case c3 => exact rfl); (case c4 => exact rfl); k_whole; intro g' L' h' tk' cells' FG' F' N' Y' B' X' T' l1; (try k_lt l1); k_cells Y'; (try simp only [List.cons_append, List.nil_append] at N'); (try dsimp only); (try k_fold))
  replace hoff := off_join hoff (off_lt3 (d := L') (a := rest) l1.2.2.2.2.2.2.2.2.2.2.2.2.2)
  simp only [List.cons_append, List.nil_append] at hoff
  rename_i o1 o2 o3 d1 d2 d3
  replace d1 : o1.data = .cell none := d1
  replace d2 : o2.data = .cell (some (.ref W)) := d2
  replace d3 : o3.data = .cell (some (.ref Bw)) := d3
  replace F' : Fr g' L' h' (fun y => if y = PySem.Str.ofString "points" then some (.ref Pi) else if y = PySem.Str.ofString "pen" then some (.ref Pn) else none) := F'
  k_steps
  rename_i way twy sa sb sc ua ub uc hx1 tkx1 b1 b2 b3 b4 b5 b6 b7 pl tp st9 sd9 ct9 t19 t29 t39 h9 tk9 c1 c2 c3 c4 c5 c6 c7 D9 hx2 o19 hx3 hx4 hx5 o4 F9 N9 d9
  have fin : ∀ (led' all : List (Addr × Obj)) (m' : Str → Option Value) (h' : Heap) (tk' : Nat), Wd w Pn Pi Pd Mi Md H Bw W k1 k2 k3 kt y1 y2 y3 hh (n + 1) led' → Fr g' L' h' m' → News g' L' h' all → (∀ p ∈ led' ++ rest, p ∈ all) → OwnOff rest (led'.map (·.1)) → LeaveK h₀ L m g' (fun r s' => match r with | .ok (.ret v) => Q v s' | .ok _ => False | .error e => E e s') (.bool true) { s with heap := h', toks := tk' } := by
    intro led' all m' h2 tk2 w2 F2 N2 s2 z2
    k_steps
    rename News _ _ _ _ => kN
    exact ret led' _ _ w2 (by assumption) (fun p hp => kN p (s2 p hp)) z2
  have N8 : News g' L' hx5 ((L' + 3, o4) :: (L' + 2, o2) :: (L' + 1, o3) :: ([(Pn, listOf #[.int st9 t19, .int sd9 t29, .int ct9 t39] ep), (Pi, instObj 71 Pd), (Pd, dictOf [⟨y1, .str "memory" k1, .ref Mi⟩, ⟨y2, .str "places" k2, .ref PL⟩, ⟨y3, .str "kept" k3, .ref KD⟩] 3), (Mi, instObj 179 Md), (Md, dictOf [⟨hh, .str "held" kt, .ref H⟩] 1), (H, oH), (KD, oK), (PL, listOf (List.toArray vs) epl), (Bw, listOf (List.toArray bs) epb), (W, oW), (WP, listOf (List.toArray vp) e1), (WL, listOf (List.toArray vl) e2), (WO, listOf (List.toArray vo) e3)] ++ rest)) := fun p hp => N9 p (.tail _ hp)
  have hct3 : ct9 ≤ 10 + 3 * (n : Int) := by omega
  have hd3 : dp + 20 < recursionLimit := by omega
  have hu3 : un + 200 < cLine := by omega
  rcases (by omega : way = 0 ∨ way = 1 ∨ way = 2 ∨ way = 3 ∨ way = 4 ∨ way = 5) with rfl | rfl | rfl | rfl | rfl | rfl
  · exact tail0 w Pn Pi Pd Mi Md H Bw W k1 k2 k3 kt y1 y2 y3 hh KD PL WP WL WO st9 sd9 ct9 t19 t29 t39 ep epl epb e1 e2 e3 oH oK oW l kl vs bs vp vl vo ps bl wp wl wo pl twy tp o4 o2 o3 n hn (rk_low r0 l1.1) (rk_low r1 l1.2.1) (rk_low r2 l1.2.2.1) (rk_low r3 l1.2.2.2.1) (rk_low r4 l1.2.2.2.2.1) (rk_low r5 l1.2.2.2.2.2.1) (rk_low r6 l1.2.2.2.2.2.2.1) (rk_low r7 l1.2.2.2.2.2.2.2.1) (rk_low r8 l1.2.2.2.2.2.2.2.2.1) (rk_low r9 l1.2.2.2.2.2.2.2.2.2.1) (rk_low r10 l1.2.2.2.2.2.2.2.2.2.2.1) (rk_low r11 l1.2.2.2.2.2.2.2.2.2.2.2.1) (rk_low r12 l1.2.2.2.2.2.2.2.2.2.2.2.2.1) (rk_high 0) (rk_high 1) (rk_high 2) hlo c3 c4 c5 c6 hct3 hlo2 hD hK hW hI hl hps hwp hwl hwo i1 i2 i3 i4 i5 hoff B' F9 X' T' hd3 hu3 d9 d2 d3 c1 c2 N8 fin
  · exact tail1 w Pn Pi Pd Mi Md H Bw W k1 k2 k3 kt y1 y2 y3 hh KD PL WP WL WO st9 sd9 ct9 t19 t29 t39 ep epl epb e1 e2 e3 oH oK oW l kl vs bs vp vl vo ps bl wp wl wo pl twy tp o4 o2 o3 n hn (rk_low r0 l1.1) (rk_low r1 l1.2.1) (rk_low r2 l1.2.2.1) (rk_low r3 l1.2.2.2.1) (rk_low r4 l1.2.2.2.2.1) (rk_low r5 l1.2.2.2.2.2.1) (rk_low r6 l1.2.2.2.2.2.2.1) (rk_low r7 l1.2.2.2.2.2.2.2.1) (rk_low r8 l1.2.2.2.2.2.2.2.2.1) (rk_low r9 l1.2.2.2.2.2.2.2.2.2.1) (rk_low r10 l1.2.2.2.2.2.2.2.2.2.2.1) (rk_low r11 l1.2.2.2.2.2.2.2.2.2.2.2.1) (rk_low r12 l1.2.2.2.2.2.2.2.2.2.2.2.2.1) (rk_high 0) (rk_high 1) (rk_high 2) hlo c3 c4 c5 c6 hct3 hlo2 hD hK hW hI hl hps hwp hwl hwo i1 i2 i3 i4 i5 hoff B' F9 X' T' hd3 hu3 d9 d2 d3 c1 c2 N8 fin
  · exact tail2 w Pn Pi Pd Mi Md H Bw W k1 k2 k3 kt y1 y2 y3 hh KD PL WP WL WO st9 sd9 ct9 t19 t29 t39 ep epl epb e1 e2 e3 oH oK oW l kl vs bs vp vl vo ps bl wp wl wo pl twy tp o4 o2 o3 n hn (rk_low r0 l1.1) (rk_low r1 l1.2.1) (rk_low r2 l1.2.2.1) (rk_low r3 l1.2.2.2.1) (rk_low r4 l1.2.2.2.2.1) (rk_low r5 l1.2.2.2.2.2.1) (rk_low r6 l1.2.2.2.2.2.2.1) (rk_low r7 l1.2.2.2.2.2.2.2.1) (rk_low r8 l1.2.2.2.2.2.2.2.2.1) (rk_low r9 l1.2.2.2.2.2.2.2.2.2.1) (rk_low r10 l1.2.2.2.2.2.2.2.2.2.2.1) (rk_low r11 l1.2.2.2.2.2.2.2.2.2.2.2.1) (rk_low r12 l1.2.2.2.2.2.2.2.2.2.2.2.2.1) (rk_high 0) (rk_high 1) (rk_high 2) hlo c3 c4 c5 c6 hct3 hlo2 hD hK hW hI hl hps hwp hwl hwo i1 i2 i3 i4 i5 hoff B' F9 X' T' hd3 hu3 d9 d2 d3 c1 c2 N8 fin
  · exact tail3 w Pn Pi Pd Mi Md H Bw W k1 k2 k3 kt y1 y2 y3 hh KD PL WP WL WO st9 sd9 ct9 t19 t29 t39 ep epl epb e1 e2 e3 oH oK oW l kl vs bs vp vl vo ps bl wp wl wo pl twy tp o4 o2 o3 n hn (rk_low r0 l1.1) (rk_low r1 l1.2.1) (rk_low r2 l1.2.2.1) (rk_low r3 l1.2.2.2.1) (rk_low r4 l1.2.2.2.2.1) (rk_low r5 l1.2.2.2.2.2.1) (rk_low r6 l1.2.2.2.2.2.2.1) (rk_low r7 l1.2.2.2.2.2.2.2.1) (rk_low r8 l1.2.2.2.2.2.2.2.2.1) (rk_low r9 l1.2.2.2.2.2.2.2.2.2.1) (rk_low r10 l1.2.2.2.2.2.2.2.2.2.2.1) (rk_low r11 l1.2.2.2.2.2.2.2.2.2.2.2.1) (rk_low r12 l1.2.2.2.2.2.2.2.2.2.2.2.2.1) (rk_high 0) (rk_high 1) (rk_high 2) hlo c3 c4 c5 c6 hct3 hlo2 hD hK hW hI hl hps hwp hwl hwo i1 i2 i3 i4 i5 hoff B' F9 X' T' hd3 hu3 d9 d2 d3 c1 c2 N8 fin
  · exact tail4 w Pn Pi Pd Mi Md H Bw W k1 k2 k3 kt y1 y2 y3 hh KD PL WP WL WO st9 sd9 ct9 t19 t29 t39 ep epl epb e1 e2 e3 oH oK oW l kl vs bs vp vl vo ps bl wp wl wo pl twy tp o4 o2 o3 n hn (rk_low r0 l1.1) (rk_low r1 l1.2.1) (rk_low r2 l1.2.2.1) (rk_low r3 l1.2.2.2.1) (rk_low r4 l1.2.2.2.2.1) (rk_low r5 l1.2.2.2.2.2.1) (rk_low r6 l1.2.2.2.2.2.2.1) (rk_low r7 l1.2.2.2.2.2.2.2.1) (rk_low r8 l1.2.2.2.2.2.2.2.2.1) (rk_low r9 l1.2.2.2.2.2.2.2.2.2.1) (rk_low r10 l1.2.2.2.2.2.2.2.2.2.2.1) (rk_low r11 l1.2.2.2.2.2.2.2.2.2.2.2.1) (rk_low r12 l1.2.2.2.2.2.2.2.2.2.2.2.2.1) (rk_high 0) (rk_high 1) (rk_high 2) hlo c3 c4 c5 c6 hct3 hlo2 hD hK hW hI hl hps hwp hwl hwo i1 i2 i3 i4 i5 hoff B' F9 X' T' hd3 hu3 d9 d2 d3 c1 c2 N8 fin
  · exact tail5 w Pn Pi Pd Mi Md H Bw W k1 k2 k3 kt y1 y2 y3 hh KD PL WP WL WO st9 sd9 ct9 t19 t29 t39 ep epl epb e1 e2 e3 oH oK oW l kl vs bs vp vl vo ps bl wp wl wo pl twy tp o4 o2 o3 n hn (rk_low r0 l1.1) (rk_low r1 l1.2.1) (rk_low r2 l1.2.2.1) (rk_low r3 l1.2.2.2.1) (rk_low r4 l1.2.2.2.2.1) (rk_low r5 l1.2.2.2.2.2.1) (rk_low r6 l1.2.2.2.2.2.2.1) (rk_low r7 l1.2.2.2.2.2.2.2.1) (rk_low r8 l1.2.2.2.2.2.2.2.2.1) (rk_low r9 l1.2.2.2.2.2.2.2.2.2.1) (rk_low r10 l1.2.2.2.2.2.2.2.2.2.2.1) (rk_low r11 l1.2.2.2.2.2.2.2.2.2.2.2.1) (rk_low r12 l1.2.2.2.2.2.2.2.2.2.2.2.2.1) (rk_high 0) (rk_high 1) (rk_high 2) hlo c3 c4 c5 c6 hct3 hlo2 hD hK hW hI hl hps hwp hwl hwo i1 i2 i3 i4 i5 hoff B' F9 X' T' hd3 hu3 d9 d2 d3 c1 c2 N8 fin
end Mine
namespace Mine
section
variable {prog : Program} {w : World} {A : Around} {E : Value → Shared → Prop} {s : Shared} {env : Env} {h₀ : Heap} {x : Str} {body : List Stmt} {Q : Flow → Shared → Prop}
/-- a turn that stores one int at the name y -/
def TurnI (h₀ : Heap) (L : Addr) (m₀ : Str → Option Value) (x y : Str) (P : Int → Prop) (news own : List (Addr × Obj)) (s₁ : Shared) (Q : Flow → Shared → Prop) (f : Flow) (s₂ : Shared) : Prop :=
  match f with
  | .ret v => Q (.ret v) s₂
  | .brk => Q .next s₂
  | _ => ∃ h' tk m' a ta, s₂ = { s₁ with heap := h', toks := tk } ∧ Fr h₀ L h' m' ∧ News h₀ L h' (news ++ own) ∧ m' y = some (.int a ta) ∧ P a ∧ ∀ z, z ≠ x → z ≠ y → m' z = m₀ z
theorem iter_ledI {l : Addr} {vs : List Value} {ns : List Int} {ep : Nat} {m₀ : Str → Option Value} {news news0 : List (Addr × Obj)} {a₀ : Int} {ta₀ : Tok} (y : Str) (P : Nat → Int → Prop) (hyx : y ≠ x)
    (hh : A.handled = none) (N0 : News h₀ env.locals s.heap news0) (hm : (l, listOf (List.toArray vs) ep) ∈ news0) (hi : IntsAre vs ns) (F : Fr h₀ env.locals s.heap m₀) (N : News h₀ env.locals s.heap news) (hy : m₀ y = some (.int a₀ ta₀)) (hp : P 0 a₀)
    (turn : ∀ i k t a ta h tk own, ns[i]? = some k → P i a → Fr h₀ env.locals h (fun z => if z = x then some (.int k t) else if z = y then some (.int a ta) else m₀ z) → News h₀ env.locals h (news ++ own) →
      wpAny (model prog w) A (execs body env) (TurnI h₀ env.locals m₀ x y (P (i + 1)) news own { s with heap := h, toks := tk } Q) E { s with heap := h, toks := tk })
    (done : ∀ (u : Str → Option Value) a ta h tk, P ns.length a → Fr h₀ env.locals h (fun z => if z = x then u z else if z = y then some (.int a ta) else m₀ z) → News h₀ env.locals h news → Q .next { s with heap := h, toks := tk }) :
    wpAny (model prog w) A (pyIter (.ref l)) (fun it s₂ => LoopAtV prog w A h₀ env x body Q E it s₂) E s := by
  refine iter_led [] (fun i m nx => nx = news ∧ (∃ a ta, m y = some (.int a ta) ∧ P i a) ∧ ∀ z, z ≠ x → z ≠ y → m z = m₀ z) hh N0 hm hi F N ⟨rfl, ⟨_, _, hy, hp⟩, fun _ _ _ => rfl⟩ (fun _ _ _ _ _ ha => nomatch ha) ?_ ?_
  · rintro i k t m₁ news₁ h tk own I oI hk _ hI hoff ⟨rfl, ⟨a, ta, ha, hp⟩, hm1⟩ F₁ N₁
    have e : (fun z => if z = x then some (Value.int k t) else m₁ z) = fun z => if z = x then some (Value.int k t) else if z = y then some (.int a ta) else m₀ z := by
      funext z
      by_cases h1 : z = x
      · simp [h1]
      · by_cases h2 : z = y
        · subst h2; simp [h1, ha]
        · simp only [if_neg h1, if_neg h2]; exact hm1 z h1 h2
    rw [e] at F₁
    refine wpAny_mono (turn i k t a ta h tk own hk hp F₁ N₁) (fun f s₂ p => ?_) fun _ _ e => e
    cases f with
    | ret v => exact p
    | brk => exact p
    | next => obtain ⟨h', tk', m', a', ta', e, F', N', h1, h2, h3⟩ := p; exact ⟨h', tk', m', news₁, e, F', N', hoff, rfl, ⟨a', ta', h1, h2⟩, h3⟩
    | cont => obtain ⟨h', tk', m', a', ta', e, F', N', h1, h2, h3⟩ := p; exact ⟨h', tk', m', news₁, e, F', N', hoff, rfl, ⟨a', ta', h1, h2⟩, h3⟩
  · rintro m₁ news₁ h tk ⟨rfl, ⟨a, ta, ha, hp⟩, hm1⟩ F₁ N₁
    have e : m₁ = fun z => if z = x then m₁ z else if z = y then some (.int a ta) else m₀ z := by
      funext z
      by_cases h1 : z = x
      · simp [h1]
      · by_cases h2 : z = y
        · subst h2; simp [h1, ha]
        · simp only [if_neg h1, if_neg h2]; exact hm1 z h1 h2
    rw [e] at F₁
    exact done m₁ a ta h tk hp F₁ N₁
end
def BASE : Int := 1000000000000000000000000000057
local macro_rules | `(tactic| k_room) => `(tactic| ktr_room)
local macro_rules | `(tactic| k_units) => `(tactic| ktr_units)
local macro_rules | `(tactic| k_ne) => `(tactic| first | (refine neN ?_; (try dsimp only); exact ne_rk (by assumption) (by assumption) (by decide)) | (refine neN ?_; (try dsimp only); omega))
set_option maxRecDepth 100000 in
set_option maxHeartbeats 8000000 in
theorem does_base (w : World) : Does w 190 2 16 [] [] (fun r nw new => new = [] ∧ nw = [] ∧ ∃ t', r = .int BASE t') := by
  unfold Does
  k_fill
  intro mean mg mb dp un gd cn cs a ccd cl outer A₀ base h₀ L m rest s Q E B F X N T hk hoff hdN huN hret
  w_on
  refine wpAny_call ?_
  k_dflt ktr_enter
  k_steps
  rw [show (10 ^ Int.toNat 30 + 57 : Int) = BASE from rfl]
  exact hret _ [] [] _ _ ⟨rfl, rfl, _, rfl⟩ rfl (by assumption) (by assumption) no_new
section
variable {prog : Program} {w : World} {A : Around} {h₀ : Heap} {L : Addr} {m : Str → Option Value} {env : Env} {elt : PySem.Expr} {x : Str} {scope : Scope} {cl : List (Str × Addr)} {s : Shared} {news : List (Addr × Obj)}
/-- a turn of a comprehension that changes the ledger: one more int, a ledger of J's -/
def GenEnd (h₀ : Heap) (L : Addr) (m : Str → Option Value) (s : Shared) (I : Addr) (oI : Obj) (C : Addr) (oC : Obj) (D : Addr) (oD : Obj) (J : List Int → List (Addr × Obj) → Prop) (zs : List Int) (y : Value) (s' : Shared) : Prop :=
  ∃ z t h' tk' nx, y = .int z t ∧ s' = { s with heap := h', toks := tk' } ∧ Fr h₀ L h' m ∧ News h₀ L h' ((I, oI) :: (C, oC) :: (D, oD) :: nx) ∧ LCg.Off3 I C D nx ∧ J (zs ++ [z]) nx
theorem gen_rest {n : Nat} {a : Int} {Fin : List Value → List (Addr × Obj) → Prop} (J : List Int → List (Addr × Obj) → Prop) (hj : J [] news)
    (turn : ∀ k t I oI C oC D m₂ ys zs nx h tk (E' : Value → Shared → Prop), k = a + (zs.length : Int) → zs.length < n → IntsAre ys zs → J zs nx → LCg.NsObj oC m₂ → m₂ x = some (.int k t) → Fr h₀ L h m → News h₀ L h ((I, oI) :: (C, oC) :: (D, LCg.lst ys) :: nx) → LCg.Off3 I C D nx → ((@Ne Nat I C) ∧ (@Ne Nat I D) ∧ (@Ne Nat C D)) →
      wpAny (model prog w) A (eval elt (compEnvC scope cl C env)) (GenEnd h₀ L m { s with heap := h, toks := tk } I oI C oC D (LCg.lst ys) J zs) E' { s with heap := h, toks := tk })
    (fin : ∀ ys zs nx, zs.length = n → IntsAre ys zs → J zs nx → Fin ys nx) : LCg.CompRest prog w A h₀ L m env elt x scope cl s (fun _ => True) (fun i v => ∃ t, v = .int (a + (i : Int)) t) Fin n 0 [] news := by
  have key : ∀ (j i : Nat) (ys : List Value) (zs : List Int) (nx : List (Addr × Obj)), i + j = n → zs.length = i → IntsAre ys zs → J zs nx → LCg.CompRest prog w A h₀ L m env elt x scope cl s (fun _ => True) (fun i v => ∃ t, v = .int (a + (i : Int)) t) Fin j i ys nx := by
    intro j
    induction j with
    | zero =>
      intro i ys zs nx hi hz hy hJ
      exact LCg.CompRest.zero (fin ys zs nx (by omega) hy hJ)
    | succ j ih =>
      intro i ys zs nx hi hz hy hJ
      refine LCg.CompRest.succ ?_
      intro v I oI C oC D m₂ h tk E' hv hC hx F N off ne
      obtain ⟨t, rfl⟩ := hv
      refine wpAny_mono (turn _ t I oI C oC D m₂ ys zs nx h tk E' (by rw [hz]) (by omega) hy hJ hC hx F N off ne) (fun y s₂ hq => ?_) fun _ _ e => e
      obtain ⟨z, t', h', tk', nx', rfl, e, F', N', off', hJ'⟩ := hq
      refine ⟨h', tk', nx', e, F', N', off', trivial, ?_⟩
      exact ih (i + 1) _ (zs ++ [z]) _ (by omega) (by simp [hz]) (hy.append (.cons z t' .nil)) hJ'
  exact key n 0 [] [] news (by omega) rfl .nil hj
theorem gen_rng {r : Addr} {a b : Int} {t u v : Tok} {n : Nat} {Fin : Shared → List Value → List (Addr × Obj) → Prop} (J : List Int → List (Addr × Obj) → Prop)
    (hh : A.handled = none) (F : Fr h₀ L s.heap m) (N : News h₀ L s.heap news) (hr : IsRange s.heap r a b 1 t u v) (hsm : Builtin.Range.small a b 1 = true) (hn : Builtin.Range.rangeSize a b 1 = ((n : Nat) : Int)) (hsz : n ≤ sizeLine) (hj : J [] news)
    (turn : ∀ k t I oI C oC D m₂ ys zs nx h tk (E' : Value → Shared → Prop), k = a + (zs.length : Int) → zs.length < n → IntsAre ys zs → J zs nx → LCg.NsObj oC m₂ → m₂ x = some (.int k t) → Fr h₀ L h m → News h₀ L h ((I, oI) :: (C, oC) :: (D, LCg.lst ys) :: nx) → LCg.Off3 I C D nx → ((@Ne Nat I C) ∧ (@Ne Nat I D) ∧ (@Ne Nat C D)) →
      wpAny (model prog w) A (eval elt (compEnvC scope cl C env)) (GenEnd h₀ L m { s with heap := h, toks := tk } I oI C oC D (LCg.lst ys) J zs) E' { s with heap := h, toks := tk })
    (fin : ∀ g ys zs nx, zs.length = n → IntsAre ys zs → J zs nx → Fin { s with heap := g } ys nx) : LCg.CompSrc prog w A h₀ L m env elt x scope cl Fin (.ref r) s :=
  LCg.CompSrc.range hh F N hr hsm hn hsz fun g => gen_rest J hj turn (fin g)
end
/-- the ledger while the law draws its octets: the pen alone changes -/
def PenJ (pre : List (Addr × Obj)) (Pn : Addr) (post : List (Addr × Obj)) (zs : List Int) (nx : List (Addr × Obj)) : Prop :=
  ∃ (st sd ct : Int) (t1 t2 t3 : Tok), nx = pre ++ (Pn, (listOf #[.int st t1, .int sd t2, .int ct t3] 0 : Obj)) :: post ∧ 0 ≤ st ∧ 0 ≤ sd ∧ sd < 2147483647 ∧ 0 ≤ ct ∧ ct ≤ (zs.length : Int) ∧ ∀ z ∈ zs, z = 7 ∨ z = 204 ∨ z = 0 ∨ z = 255
theorem four {v : Int} (h0 : 0 ≤ v) (h1 : v < 4) : ([7, 204, 0, 255] : List Int).getD v.toNat 0 = 7 ∨ ([7, 204, 0, 255] : List Int).getD v.toNat 0 = 204 ∨ ([7, 204, 0, 255] : List Int).getD v.toNat 0 = 0 ∨ ([7, 204, 0, 255] : List Int).getD v.toNat 0 = 255 := by
  rcases (by omega : v = 0 ∨ v = 1 ∨ v = 2 ∨ v = 3) with rfl | rfl | rfl | rfl <;> decide
theorem ints8 {ys : List Value} {zs : List Int} (h : IntsAre ys zs) (hl : zs.length = 8) : ∃ z0 z1 z2 z3 z4 z5 z6 z7 u0 u1 u2 u3 u4 u5 u6 u7, zs = [z0, z1, z2, z3, z4, z5, z6, z7] ∧ ys = [.int z0 u0, .int z1 u1, .int z2 u2, .int z3 u3, .int z4 u4, .int z5 u5, .int z6 u6, .int z7 u7] := by
  cases h with | nil => cases hl | cons z0 u0 h =>
  cases h with | nil => cases hl | cons z1 u1 h =>
  cases h with | nil => cases hl | cons z2 u2 h =>
  cases h with | nil => cases hl | cons z3 u3 h =>
  cases h with | nil => cases hl | cons z4 u4 h =>
  cases h with | nil => cases hl | cons z5 u5 h =>
  cases h with | nil => cases hl | cons z6 u6 h =>
  cases h with | nil => cases hl | cons z7 u7 h =>
  cases h with | cons z8 u8 h => cases hl | nil =>
  exact ⟨z0, z1, z2, z3, z4, z5, z6, z7, u0, u1, u2, u3, u4, u5, u6, u7, rfl, rfl⟩
theorem rk_three {a b c : Nat} (h1 : a ≠ b) (h2 : a ≠ c) (h3 : b ≠ c) : ∃ rk : Nat → Nat, Rk rk a 3 ∧ Rk rk b 4 ∧ Rk rk c 5 := by
  refine ⟨fun x => if x = a then 3 else if x = b then 4 else 5, ?_, ?_, ?_⟩ <;> unfold Rk <;> dsimp only
  · rw [if_pos rfl]
  · rw [if_neg (Ne.symm h1), if_pos rfl]
  · rw [if_neg (Ne.symm h2), if_neg (Ne.symm h3)]
section
variable {prog : Program} {w : World} {A : Around} {E : Value → Shared → Prop} {s : Shared} {env : Env} {h₀ : Heap} {x : Str} {body : List Stmt} {Q : Flow → Shared → Prop}
/-- a range's loop whose turns may replace objects of the ledger: the iterator's part is its own object alone -/
theorem iter_rngO {r : Addr} {a₀ b₀ : Int} {t₀ u₀ v₀ : Tok} {n : Nat} {m₀ : Str → Option Value} {news : List (Addr × Obj)} (J : Nat → (Str → Option Value) → List (Addr × Obj) → Prop)
    (hh : A.handled = none) (hr : IsRange s.heap r a₀ b₀ 1 t₀ u₀ v₀) (hsmall : Builtin.Range.small a₀ b₀ 1 = true) (hn : Builtin.Range.rangeSize a₀ b₀ 1 = (n : Int)) (F : Fr h₀ env.locals s.heap m₀) (N : News h₀ env.locals s.heap news) (hj : J 0 m₀ news)
    (turn : ∀ i k t m₁ news₁ h tk own I oI, i < n → (∀ p ∈ own, p.1 = I) → (I, oI) ∈ own → (∀ p ∈ news₁, p.1 ≠ I) → J i m₁ news₁ → Fr h₀ env.locals h (fun y => if y = x then some (.int k t) else m₁ y) → News h₀ env.locals h (news₁ ++ own) →
      wpAny (model prog w) A (execs body env) (TurnPost h₀ env.locals (J (i + 1)) own I { s with heap := h, toks := tk } Q) E { s with heap := h, toks := tk })
    (done : ∀ m₁ news₁ h tk, J n m₁ news₁ → Fr h₀ env.locals h m₁ → News h₀ env.locals h news₁ → Q .next { s with heap := h, toks := tk }) :
    wpAny (model prog w) A (pyIter (.ref r)) (fun it s₂ => LoopAtV prog w A h₀ env x body Q E it s₂) E s := by
  refine wpAny_pyIter_range hr hsmall ?_
  have W : Walks prog w A s.heap.objs.size [s.heap.objs.size] [s.heap.objs.size] n (fun i v => i < n ∧ ∃ t, v = .int (a₀ + i * 1) t)
      (fun i h => IsRangeIter h s.heap.objs.size (a₀ + (i : Nat) * 1) ((n : Int) - (i : Nat)) 1) := (Walks.range hh _ a₀ 1 n).bound
  have hI0 : h₀.get? s.heap.objs.size = none := next_is_new F
  refine ⟨s.heap.objs.size, [s.heap.objs.size], [s.heap.objs.size], n, _, _, m₀, news, J, rfl, W, (fun hm => absurd F.ns.lt ((List.mem_singleton.mp hm) ▸ Nat.lt_irrefl _)), (fun b hb => by rw [List.mem_singleton.mp hb]; exact hI0), (fun p hp hI => absurd (Heap.lt_size (N p hp).1) ((List.mem_singleton.mp hI) ▸ Nat.lt_irrefl _)), (by show IsRangeIter _ _ _ _ _; rw [hn]; simpa using Heap.get?_push_size _ rfl), F.push _, (fun p hp => ⟨Heap.get?_push_of_some _ (N p hp).1, (N p hp).2⟩), hj, ?_, ?_⟩
  · rintro i v m₁ news₁ s₁ own ⟨hh', tk', rfl⟩ hin hPv hJ hoff hown _ hmem hst₁ F₁ N₁
    obtain ⟨_, t, rfl⟩ := hPv
    have N₂ : News h₀ env.locals hh' (news₁ ++ own) := fun p hp => N₁ p ((List.mem_append.mp hp).elim (fun h => List.mem_append.mpr (.inr h)) fun h => List.mem_append.mpr (.inl h))
    have offI : ∀ p ∈ news₁, p.1 ≠ s.heap.objs.size := fun p hp e => hoff p hp (e ▸ .head _)
    refine wpAny_mono (turn i _ t m₁ news₁ hh' tk' own s.heap.objs.size _ hin (fun p hp => List.mem_singleton.mp (hown p hp)) (hmem s.heap.objs.size (.head _) hI0 _ hst₁) offI hJ F₁ N₂) (fun f s₂ p => ?_) fun _ _ e => e
    have fin : TurnEnd h₀ env.locals (J (i + 1)) own s.heap.objs.size { s with heap := hh', toks := tk' } s₂ → LoopStepU h₀ env.locals [s.heap.objs.size] own (J (i + 1)) { s with heap := hh', toks := tk' } .next s₂ := by
      rintro ⟨h', tk, m', nx, e, F', N', hn, hm⟩
      exact ⟨rfl, h', tk, m', nx, e, F', fun p hp => N' p ((List.mem_append.mp hp).elim (fun h => List.mem_append.mpr (.inr h)) fun h => List.mem_append.mpr (.inl h)), fun p hp hq => hn p hp (List.mem_singleton.mp hq), hm⟩
    cases f with
    | ret v => exact .ret p
    | brk => exact .brk p
    | next => exact .next (fin p)
    | cont => exact .cont (fin p)
  · rintro h' tk m' news' F' N' _ hJ
    exact done m' news' h' tk hJ F' N'
end
/-- the law's world at the start of the twelve turns -/
theorem law_start {w : World} {Pn Pi Pd Mi Md H KD PL Bw W WP WL WO : Addr} {k1 k2 k3 kt : Tok} {y1 y2 y3 hh : Int} {st sd ct : Int} {t1 t2 t3 : Tok} {ep epl epb e1 e2 e3 : Nat} {oH oK oW : Obj} {l : List (Int × Int)} {bs : List Value} {bl : List Int} {g h' : Heap} {L : Addr} {all rest : List (Addr × Obj)} {P : Prop}
    (N : News g L h' all) (m2 : (Pd, dictOf [⟨y1, .str "memory" k1, .ref Mi⟩, ⟨y2, .str "places" k2, .ref PL⟩, ⟨y3, .str "kept" k3, .ref KD⟩] 3) ∈ all) (m1 : (Pi, instObj 71 Pd) ∈ all) (m0 : (Pn, (listOf #[.int st t1, .int sd t2, .int ct t3] ep : Obj)) ∈ all) (m3 : (Mi, instObj 179 Md) ∈ all) (m4 : (Md, dictOf [⟨hh, .str "held" kt, .ref H⟩] 1) ∈ all) (m5 : (H, oH) ∈ all) (m6 : (KD, oK) ∈ all)
    (m7 : (PL, (listOf #[] epl : Obj)) ∈ all) (m8 : (Bw, (listOf (List.toArray bs) epb : Obj)) ∈ all) (m9 : (W, oW) ∈ all) (m10 : (WP, (listOf #[] e1 : Obj)) ∈ all) (m11 : (WL, (listOf #[] e2 : Obj)) ∈ all) (m12 : (WO, (listOf #[] e3 : Obj)) ∈ all) (hr : ∀ p ∈ rest, p ∈ all)
    (hnd : ([Pn, Pi, Pd, Mi, Md, H, KD, PL, Bw, W, WP, WL, WO] : List Nat).Nodup) (hoff : OwnOff rest [Pn, Pi, Pd, Mi, Md, H, KD, PL, Bw, W, WP, WL, WO])
    (b1 : 0 ≤ st) (b2 : 0 ≤ sd) (b3 : sd < 2147483647) (b4 : 0 ≤ ct) (b5 : ct ≤ 8) (hlo2 : (KD == sysModules) = false) (hD : DI w oH l) (hK : DI w oK []) (hW : WI w oW WP WL WO) (i2 : IntsAre bs bl) (hI : Inv (getI l) (getI []) bl [] [] [] []) (hl : l.length ≤ 500)
    (next : ∀ led rest', rest' = rest → Wd w Pn Pi Pd Mi Md H Bw W k1 k2 k3 kt y1 y2 y3 hh 0 led → News g L h' (led ++ rest') → OwnOff rest' (led.map (·.1)) → P) : P := by
  refine next _ rest rfl ⟨KD, PL, WP, WL, WO, st, sd, ct, t1, t2, t3, ep, epl, epb, e1, e2, e3, oH, oK, oW, l, [], [], bs, [], [], [], [], bl, [], [], [], rfl, hnd, b1, b2, b3, b4, by simpa using b5, hlo2, hD, hK, hW, hI, hl, Nat.zero_le _, Nat.zero_le _, Nat.zero_le _, Nat.zero_le _, .nil, i2, .nil, .nil, .nil⟩ (fun p hp => N p ?_) hoff
  simp only [List.cons_append, List.nil_append, List.mem_cons] at hp
  rcases hp with rfl | rfl | rfl | rfl | rfl | rfl | rfl | rfl | rfl | rfl | rfl | rfl | rfl | hp
  · exact m0
  · exact m1
  · exact m2
  · exact m3
  · exact m4
  · exact m5
  · exact m6
  · exact m7
  · exact m8
  · exact m9
  · exact m10
  · exact m11
  · exact m12
  · exact hr p hp
/-- the eight octets stored one after another -/
def eight (z0 z1 z2 z3 z4 z5 z6 z7 : Int) : List (Int × Int) := putI (putI (putI (putI (putI (putI (putI (putI [] (256 + 0) z0) (256 + 1) z1) (256 + 2) z2) (256 + 3) z3) (256 + 4) z4) (256 + 5) z5) (256 + 6) z6) (256 + 7) z7
theorem eight_inv {z0 z1 z2 z3 z4 z5 z6 z7 : Int} (c : ∀ z ∈ [z0, z1, z2, z3, z4, z5, z6, z7], z = 7 ∨ z = 204 ∨ z = 0 ∨ z = 255) : Inv (getI (eight z0 z1 z2 z3 z4 z5 z6 z7)) (getI []) [z0, z1, z2, z3, z4, z5, z6, z7] [] [] [] [] := by
  refine Inv.start rfl (fun b hb => ?_) (fun k r0 r1 => ?_) fun p => rfl
  · rcases c b hb with rfl | rfl | rfl | rfl <;> decide
  · rcases (by omega : k = 0 ∨ k = 1 ∨ k = 2 ∨ k = 3 ∨ k = 4 ∨ k = 5 ∨ k = 6 ∨ k = 7) with rfl | rfl | rfl | rfl | rfl | rfl | rfl | rfl <;> simp [eight, getI_put, bAt]
theorem put_le {l : List (Int × Int)} {k v : Int} {n : Nat} (h : l.length ≤ n) : (putI l k v).length ≤ n + 1 := Nat.le_trans (putI_len l k v) (Nat.add_le_add_right h 1)
theorem eight_len {z0 z1 z2 z3 z4 z5 z6 z7 : Int} : (eight z0 z1 z2 z3 z4 z5 z6 z7).length ≤ 500 := Nat.le_trans (put_le (put_le (put_le (put_le (put_le (put_le (put_le (put_le (n := 0) (Nat.le_refl 0))))))))) (by decide)
/-- a turn of the law -/
def TurnL (w : World) (Pn Pi Pd Mi Md H Bw W : Addr) (k1 k2 k3 kt : Tok) (y1 y2 y3 hh : Int) (n : Nat) (rest : List (Addr × Obj)) (h₀ : Heap) (L : Addr) (m₀ : Str → Option Value) (x : Str) (s₁ : Shared) (Q : Flow → Shared → Prop) (f : Flow) (s₂ : Shared) : Prop :=
  match f with
  | .ret v => Q (.ret v) s₂
  | .brk => Q .next s₂
  | _ => ∃ led' h' tk m', s₂ = { s₁ with heap := h', toks := tk } ∧ Wd w Pn Pi Pd Mi Md H Bw W k1 k2 k3 kt y1 y2 y3 hh n led' ∧ Fr h₀ L h' m' ∧ News h₀ L h' (led' ++ rest) ∧ OwnOff rest (led'.map (·.1)) ∧ ∀ z, z ≠ x → m' z = m₀ z
section
variable {prog : Program} {A : Around} {E : Value → Shared → Prop} {s : Shared} {env : Env} {h₀ : Heap} {x : Str} {body : List Stmt} {Q : Flow → Shared → Prop}
theorem iter_law {w : World} {Pn Pi Pd Mi Md H Bw W : Addr} {k1 k2 k3 kt : Tok} {y1 y2 y3 hh : Int} {r : Addr} {a₀ b₀ : Int} {t₀ u₀ v₀ : Tok} {m₀ : Str → Option Value} {led0 rest : List (Addr × Obj)} (hWd : Wd w Pn Pi Pd Mi Md H Bw W k1 k2 k3 kt y1 y2 y3 hh 0 led0)
    (hh' : A.handled = none) (hr : IsRange s.heap r a₀ b₀ 1 t₀ u₀ v₀) (hsmall : Builtin.Range.small a₀ b₀ 1 = true) (hn : Builtin.Range.rangeSize a₀ b₀ 1 = ((12 : Nat) : Int)) (F : Fr h₀ env.locals s.heap m₀) (N : News h₀ env.locals s.heap (led0 ++ rest)) (hoff : OwnOff rest (led0.map (·.1)))
    (turn : ∀ i k t led h tk rest2, i < 12 → (∀ p ∈ rest, p ∈ rest2) → Wd w Pn Pi Pd Mi Md H Bw W k1 k2 k3 kt y1 y2 y3 hh i led → Fr h₀ env.locals h (fun y => if y = x then some (.int k t) else m₀ y) → News h₀ env.locals h (led ++ rest2) → OwnOff rest2 (led.map (·.1)) →
      wpAny (model prog w) A (execs body env) (TurnL w Pn Pi Pd Mi Md H Bw W k1 k2 k3 kt y1 y2 y3 hh (i + 1) rest2 h₀ env.locals m₀ x { s with heap := h, toks := tk } Q) E { s with heap := h, toks := tk })
    (done : ∀ (u : Str → Option Value) led h tk, Wd w Pn Pi Pd Mi Md H Bw W k1 k2 k3 kt y1 y2 y3 hh 12 led → Fr h₀ env.locals h (fun z => if z = x then u z else m₀ z) → News h₀ env.locals h (led ++ rest) → OwnOff rest (led.map (·.1)) → Q .next { s with heap := h, toks := tk }) :
    wpAny (model prog w) A (pyIter (.ref r)) (fun it s₂ => LoopAtV prog w A h₀ env x body Q E it s₂) E s := by
  refine iter_rngO (n := 12) (fun i m nx => ∃ led, nx = led ++ rest ∧ Wd w Pn Pi Pd Mi Md H Bw W k1 k2 k3 kt y1 y2 y3 hh i led ∧ OwnOff rest (led.map (·.1)) ∧ ∀ z, z ≠ x → m z = m₀ z) hh' hr hsmall hn F N ⟨led0, rfl, hWd, hoff, fun _ _ => rfl⟩ ?_ ?_
  · rintro i k t m₁ news₁ h tk own I oI hi hown hI hne ⟨led, rfl, hW, ho, hm⟩ F₁ N₁
    have e : (fun z => if z = x then some (Value.int k t) else m₁ z) = fun z => if z = x then some (Value.int k t) else m₀ z := by
      funext z
      by_cases h1 : z = x
      · simp [h1]
      · simp only [if_neg h1]; exact hm z h1
    rw [e] at F₁
    have ho2 : OwnOff (rest ++ own) (led.map (·.1)) := fun p hp b hb e => by
      rcases List.mem_append.mp hp with h1 | h1
      · exact ho p h1 b hb e
      · obtain ⟨q, hq, e2⟩ := List.mem_map.mp hb
        exact hne q (List.mem_append_left _ hq) (e2.trans (e.symm.trans (hown p h1)))
    refine wpAny_mono (turn i k t led h tk (rest ++ own) hi (fun p hp => List.mem_append_left _ hp) hW F₁ (by rw [← List.append_assoc]; exact N₁) ho2) (fun f s₂ p => ?_) fun _ _ e => e
    have fin : (∃ led' h' tk' m', s₂ = { ({ s with heap := h, toks := tk } : Shared) with heap := h', toks := tk' } ∧ Wd w Pn Pi Pd Mi Md H Bw W k1 k2 k3 kt y1 y2 y3 hh (i + 1) led' ∧ Fr h₀ env.locals h' m' ∧ News h₀ env.locals h' (led' ++ (rest ++ own)) ∧ OwnOff (rest ++ own) (led'.map (·.1)) ∧ ∀ z, z ≠ x → m' z = m₀ z) →
        TurnEnd h₀ env.locals (fun m nx => ∃ led, nx = led ++ rest ∧ Wd w Pn Pi Pd Mi Md H Bw W k1 k2 k3 kt y1 y2 y3 hh (i + 1) led ∧ OwnOff rest (led.map (·.1)) ∧ ∀ z, z ≠ x → m z = m₀ z) own I { s with heap := h, toks := tk } s₂ := by
      rintro ⟨led', h', tk', m', e, hW', F', N', off', hm'⟩
      refine ⟨h', tk', m', led' ++ rest, e, F', by rw [List.append_assoc]; exact N', fun p hp => ?_, led', rfl, hW', fun p hp b hb => off' p (List.mem_append_left _ hp) b hb, hm'⟩
      rcases List.mem_append.mp hp with h1 | h1
      · exact fun e => off' (I, oI) (List.mem_append_right _ hI) p.1 (List.mem_map_of_mem h1) e.symm
      · exact hne p (List.mem_append_right _ h1)
    cases f with
    | ret v => exact p
    | brk => exact p
    | next => exact fin p
    | cont => exact fin p
  · rintro m₁ news₁ h tk ⟨led, rfl, hW, ho, hm⟩ F₁ N₁
    have e : m₁ = fun z => if z = x then m₁ z else m₀ z := by
      funext z
      by_cases h1 : z = x
      · simp [h1]
      · simp only [if_neg h1]; exact hm z h1
    rw [e] at F₁
    exact done m₁ led h tk hW F₁ N₁ ho
end
theorem off3_of {a b c : Nat} {oa ob oc : Obj} {x : Nat} (h1 : (a : Nat) ≠ x) (h2 : (b : Nat) ≠ x) (h3 : (c : Nat) ≠ x) : ∀ p ∈ [(a, oa), (b, ob), (c, oc)], p.1 ≠ x := fun p hp => by
  simp only [List.mem_cons, List.not_mem_nil, or_false] at hp
  rcases hp with rfl | rfl | rfl
  · exact h1
  · exact h2
  · exact h3
theorem nm_cons {x y : Nat} {l : List Nat} (h : x ≠ y) (h2 : x ∉ l) : x ∉ y :: l := fun q => (List.mem_cons.mp q).elim h h2
/-- the law's addresses are apart -/
theorem order13 {Cl Pn Md Mi H Dt Bw Pd Pi PL KD W WP WL WO Dt2 : Nat} {o1 o2 o3 : Obj} (a0 : Cl < Md) (n6 : Cl ≠ Pn) (a1 : Pn < Md) (a2 : Md < Mi) (a3 : Mi < H) (a4 : H < Dt) (n0 : Cl ≠ Bw) (n1 : Pn ≠ Bw) (n2 : Md ≠ Bw) (n3 : Mi ≠ Bw) (n4 : H ≠ Bw) (n5 : Dt ≠ Bw)
    (a5 : Bw < Pd) (a6 : Dt < Pd) (a7 : Pd < Pi) (a8 : Pi < PL) (a9 : PL < KD) (aa : KD < W) (ab : W < WP) (ac : WP < WL) (ad : WL < WO) (ae : WO < Dt2) :
    ([Pn, Pi, Pd, Mi, Md, H, KD, PL, Bw, W, WP, WL, WO] : List Nat).Nodup ∧ OwnOff [(Dt2, o1), (Dt, o2), (Cl, o3)] [Pn, Pi, Pd, Mi, Md, H, KD, PL, Bw, W, WP, WL, WO] := by
  have hPn_Mi : Pn < Mi := Nat.lt_trans a1 a2
  have hPn_H : Pn < H := Nat.lt_trans hPn_Mi a3
  have hPn_Dt : Pn < Dt := Nat.lt_trans hPn_H a4
  have hPn_Pd : Pn < Pd := Nat.lt_trans hPn_Dt a6
  have hPn_Pi : Pn < Pi := Nat.lt_trans hPn_Pd a7
  have hPn_PL : Pn < PL := Nat.lt_trans hPn_Pi a8
  have hPn_KD : Pn < KD := Nat.lt_trans hPn_PL a9
  have hPn_W : Pn < W := Nat.lt_trans hPn_KD aa
  have hPn_WP : Pn < WP := Nat.lt_trans hPn_W ab
  have hPn_WL : Pn < WL := Nat.lt_trans hPn_WP ac
  have hPn_WO : Pn < WO := Nat.lt_trans hPn_WL ad
  have hPn_Dt2 : Pn < Dt2 := Nat.lt_trans hPn_WO ae
  have hMd_H : Md < H := Nat.lt_trans a2 a3
  have hMd_Dt : Md < Dt := Nat.lt_trans hMd_H a4
  have hMd_Pd : Md < Pd := Nat.lt_trans hMd_Dt a6
  have hMd_Pi : Md < Pi := Nat.lt_trans hMd_Pd a7
  have hMd_PL : Md < PL := Nat.lt_trans hMd_Pi a8
  have hMd_KD : Md < KD := Nat.lt_trans hMd_PL a9
  have hMd_W : Md < W := Nat.lt_trans hMd_KD aa
  have hMd_WP : Md < WP := Nat.lt_trans hMd_W ab
  have hMd_WL : Md < WL := Nat.lt_trans hMd_WP ac
  have hMd_WO : Md < WO := Nat.lt_trans hMd_WL ad
  have hMd_Dt2 : Md < Dt2 := Nat.lt_trans hMd_WO ae
  have hMi_Dt : Mi < Dt := Nat.lt_trans a3 a4
  have hMi_Pd : Mi < Pd := Nat.lt_trans hMi_Dt a6
  have hMi_Pi : Mi < Pi := Nat.lt_trans hMi_Pd a7
  have hMi_PL : Mi < PL := Nat.lt_trans hMi_Pi a8
  have hMi_KD : Mi < KD := Nat.lt_trans hMi_PL a9
  have hMi_W : Mi < W := Nat.lt_trans hMi_KD aa
  have hMi_WP : Mi < WP := Nat.lt_trans hMi_W ab
  have hMi_WL : Mi < WL := Nat.lt_trans hMi_WP ac
  have hMi_WO : Mi < WO := Nat.lt_trans hMi_WL ad
  have hMi_Dt2 : Mi < Dt2 := Nat.lt_trans hMi_WO ae
  have hH_Pd : H < Pd := Nat.lt_trans a4 a6
  have hH_Pi : H < Pi := Nat.lt_trans hH_Pd a7
  have hH_PL : H < PL := Nat.lt_trans hH_Pi a8
  have hH_KD : H < KD := Nat.lt_trans hH_PL a9
  have hH_W : H < W := Nat.lt_trans hH_KD aa
  have hH_WP : H < WP := Nat.lt_trans hH_W ab
  have hH_WL : H < WL := Nat.lt_trans hH_WP ac
  have hH_WO : H < WO := Nat.lt_trans hH_WL ad
  have hH_Dt2 : H < Dt2 := Nat.lt_trans hH_WO ae
  have hDt_Pi : Dt < Pi := Nat.lt_trans a6 a7
  have hDt_PL : Dt < PL := Nat.lt_trans hDt_Pi a8
  have hDt_KD : Dt < KD := Nat.lt_trans hDt_PL a9
  have hDt_W : Dt < W := Nat.lt_trans hDt_KD aa
  have hDt_WP : Dt < WP := Nat.lt_trans hDt_W ab
  have hDt_WL : Dt < WL := Nat.lt_trans hDt_WP ac
  have hDt_WO : Dt < WO := Nat.lt_trans hDt_WL ad
  have hDt_Dt2 : Dt < Dt2 := Nat.lt_trans hDt_WO ae
  have hPd_PL : Pd < PL := Nat.lt_trans a7 a8
  have hPd_KD : Pd < KD := Nat.lt_trans hPd_PL a9
  have hPd_W : Pd < W := Nat.lt_trans hPd_KD aa
  have hPd_WP : Pd < WP := Nat.lt_trans hPd_W ab
  have hPd_WL : Pd < WL := Nat.lt_trans hPd_WP ac
  have hPd_WO : Pd < WO := Nat.lt_trans hPd_WL ad
  have hPd_Dt2 : Pd < Dt2 := Nat.lt_trans hPd_WO ae
  have hPi_KD : Pi < KD := Nat.lt_trans a8 a9
  have hPi_W : Pi < W := Nat.lt_trans hPi_KD aa
  have hPi_WP : Pi < WP := Nat.lt_trans hPi_W ab
  have hPi_WL : Pi < WL := Nat.lt_trans hPi_WP ac
  have hPi_WO : Pi < WO := Nat.lt_trans hPi_WL ad
  have hPi_Dt2 : Pi < Dt2 := Nat.lt_trans hPi_WO ae
  have hPL_W : PL < W := Nat.lt_trans a9 aa
  have hPL_WP : PL < WP := Nat.lt_trans hPL_W ab
  have hPL_WL : PL < WL := Nat.lt_trans hPL_WP ac
  have hPL_WO : PL < WO := Nat.lt_trans hPL_WL ad
  have hPL_Dt2 : PL < Dt2 := Nat.lt_trans hPL_WO ae
  have hKD_WP : KD < WP := Nat.lt_trans aa ab
  have hKD_WL : KD < WL := Nat.lt_trans hKD_WP ac
  have hKD_WO : KD < WO := Nat.lt_trans hKD_WL ad
  have hKD_Dt2 : KD < Dt2 := Nat.lt_trans hKD_WO ae
  have hW_WL : W < WL := Nat.lt_trans ab ac
  have hW_WO : W < WO := Nat.lt_trans hW_WL ad
  have hW_Dt2 : W < Dt2 := Nat.lt_trans hW_WO ae
  have hWP_WO : WP < WO := Nat.lt_trans ac ad
  have hWP_Dt2 : WP < Dt2 := Nat.lt_trans hWP_WO ae
  have hWL_Dt2 : WL < Dt2 := Nat.lt_trans ad ae
  have hCl_Mi : Cl < Mi := Nat.lt_trans a0 a2
  have hCl_H : Cl < H := Nat.lt_trans hCl_Mi a3
  have hCl_Dt : Cl < Dt := Nat.lt_trans hCl_H a4
  have hCl_Pd : Cl < Pd := Nat.lt_trans hCl_Dt a6
  have hCl_Pi : Cl < Pi := Nat.lt_trans hCl_Pd a7
  have hCl_PL : Cl < PL := Nat.lt_trans hCl_Pi a8
  have hCl_KD : Cl < KD := Nat.lt_trans hCl_PL a9
  have hCl_W : Cl < W := Nat.lt_trans hCl_KD aa
  have hCl_WP : Cl < WP := Nat.lt_trans hCl_W ab
  have hCl_WL : Cl < WL := Nat.lt_trans hCl_WP ac
  have hCl_WO : Cl < WO := Nat.lt_trans hCl_WL ad
  have hCl_Dt2 : Cl < Dt2 := Nat.lt_trans hCl_WO ae
  have hBw_Pi : Bw < Pi := Nat.lt_trans a5 a7
  have hBw_PL : Bw < PL := Nat.lt_trans hBw_Pi a8
  have hBw_KD : Bw < KD := Nat.lt_trans hBw_PL a9
  have hBw_W : Bw < W := Nat.lt_trans hBw_KD aa
  have hBw_WP : Bw < WP := Nat.lt_trans hBw_W ab
  have hBw_WL : Bw < WL := Nat.lt_trans hBw_WP ac
  have hBw_WO : Bw < WO := Nat.lt_trans hBw_WL ad
  have hBw_Dt2 : Bw < Dt2 := Nat.lt_trans hBw_WO ae
  exact ⟨(List.nodup_cons.mpr ⟨(nm_cons (Nat.ne_of_lt hPn_Pi) (nm_cons (Nat.ne_of_lt hPn_Pd) (nm_cons (Nat.ne_of_lt hPn_Mi) (nm_cons (Nat.ne_of_lt a1) (nm_cons (Nat.ne_of_lt hPn_H) (nm_cons (Nat.ne_of_lt hPn_KD) (nm_cons (Nat.ne_of_lt hPn_PL) (nm_cons n1 (nm_cons (Nat.ne_of_lt hPn_W) (nm_cons (Nat.ne_of_lt hPn_WP) (nm_cons (Nat.ne_of_lt hPn_WL) (nm_cons (Nat.ne_of_lt hPn_WO) List.not_mem_nil)))))))))))), (List.nodup_cons.mpr ⟨(nm_cons (Nat.ne_of_gt a7) (nm_cons (Nat.ne_of_gt hMi_Pi) (nm_cons (Nat.ne_of_gt hMd_Pi) (nm_cons (Nat.ne_of_gt hH_Pi) (nm_cons (Nat.ne_of_lt hPi_KD) (nm_cons (Nat.ne_of_lt a8) (nm_cons (Nat.ne_of_gt hBw_Pi) (nm_cons (Nat.ne_of_lt hPi_W) (nm_cons (Nat.ne_of_lt hPi_WP) (nm_cons (Nat.ne_of_lt hPi_WL) (nm_cons (Nat.ne_of_lt hPi_WO) List.not_mem_nil))))))))))), (List.nodup_cons.mpr ⟨(nm_cons (Nat.ne_of_gt hMi_Pd) (nm_cons (Nat.ne_of_gt hMd_Pd) (nm_cons (Nat.ne_of_gt hH_Pd) (nm_cons (Nat.ne_of_lt hPd_KD) (nm_cons (Nat.ne_of_lt hPd_PL) (nm_cons (Nat.ne_of_gt a5) (nm_cons (Nat.ne_of_lt hPd_W) (nm_cons (Nat.ne_of_lt hPd_WP) (nm_cons (Nat.ne_of_lt hPd_WL) (nm_cons (Nat.ne_of_lt hPd_WO) List.not_mem_nil)))))))))), (List.nodup_cons.mpr ⟨(nm_cons (Nat.ne_of_gt a2) (nm_cons (Nat.ne_of_lt a3) (nm_cons (Nat.ne_of_lt hMi_KD) (nm_cons (Nat.ne_of_lt hMi_PL) (nm_cons n3 (nm_cons (Nat.ne_of_lt hMi_W) (nm_cons (Nat.ne_of_lt hMi_WP) (nm_cons (Nat.ne_of_lt hMi_WL) (nm_cons (Nat.ne_of_lt hMi_WO) List.not_mem_nil))))))))), (List.nodup_cons.mpr ⟨(nm_cons (Nat.ne_of_lt hMd_H) (nm_cons (Nat.ne_of_lt hMd_KD) (nm_cons (Nat.ne_of_lt hMd_PL) (nm_cons n2 (nm_cons (Nat.ne_of_lt hMd_W) (nm_cons (Nat.ne_of_lt hMd_WP) (nm_cons (Nat.ne_of_lt hMd_WL) (nm_cons (Nat.ne_of_lt hMd_WO) List.not_mem_nil)))))))), (List.nodup_cons.mpr ⟨(nm_cons (Nat.ne_of_lt hH_KD) (nm_cons (Nat.ne_of_lt hH_PL) (nm_cons n4 (nm_cons (Nat.ne_of_lt hH_W) (nm_cons (Nat.ne_of_lt hH_WP) (nm_cons (Nat.ne_of_lt hH_WL) (nm_cons (Nat.ne_of_lt hH_WO) List.not_mem_nil))))))), (List.nodup_cons.mpr ⟨(nm_cons (Nat.ne_of_gt a9) (nm_cons (Nat.ne_of_gt hBw_KD) (nm_cons (Nat.ne_of_lt aa) (nm_cons (Nat.ne_of_lt hKD_WP) (nm_cons (Nat.ne_of_lt hKD_WL) (nm_cons (Nat.ne_of_lt hKD_WO) List.not_mem_nil)))))), (List.nodup_cons.mpr ⟨(nm_cons (Nat.ne_of_gt hBw_PL) (nm_cons (Nat.ne_of_lt hPL_W) (nm_cons (Nat.ne_of_lt hPL_WP) (nm_cons (Nat.ne_of_lt hPL_WL) (nm_cons (Nat.ne_of_lt hPL_WO) List.not_mem_nil))))), (List.nodup_cons.mpr ⟨(nm_cons (Nat.ne_of_lt hBw_W) (nm_cons (Nat.ne_of_lt hBw_WP) (nm_cons (Nat.ne_of_lt hBw_WL) (nm_cons (Nat.ne_of_lt hBw_WO) List.not_mem_nil)))), (List.nodup_cons.mpr ⟨(nm_cons (Nat.ne_of_lt ab) (nm_cons (Nat.ne_of_lt hW_WL) (nm_cons (Nat.ne_of_lt hW_WO) List.not_mem_nil))), (List.nodup_cons.mpr ⟨(nm_cons (Nat.ne_of_lt ac) (nm_cons (Nat.ne_of_lt hWP_WO) List.not_mem_nil)), (List.nodup_cons.mpr ⟨(nm_cons (Nat.ne_of_lt ad) List.not_mem_nil), (List.nodup_cons.mpr ⟨List.not_mem_nil, List.nodup_nil⟩)⟩)⟩)⟩)⟩)⟩)⟩)⟩)⟩)⟩)⟩)⟩)⟩), (off_cons (off3_of (Nat.ne_of_gt hPn_Dt2) (Nat.ne_of_gt hPn_Dt) n6) (off_cons (off3_of (Nat.ne_of_gt hPi_Dt2) (Nat.ne_of_lt hDt_Pi) (Nat.ne_of_lt hCl_Pi)) (off_cons (off3_of (Nat.ne_of_gt hPd_Dt2) (Nat.ne_of_lt a6) (Nat.ne_of_lt hCl_Pd)) (off_cons (off3_of (Nat.ne_of_gt hMi_Dt2) (Nat.ne_of_gt hMi_Dt) (Nat.ne_of_lt hCl_Mi)) (off_cons (off3_of (Nat.ne_of_gt hMd_Dt2) (Nat.ne_of_gt hMd_Dt) (Nat.ne_of_lt a0)) (off_cons (off3_of (Nat.ne_of_gt hH_Dt2) (Nat.ne_of_gt a4) (Nat.ne_of_lt hCl_H)) (off_cons (off3_of (Nat.ne_of_gt hKD_Dt2) (Nat.ne_of_lt hDt_KD) (Nat.ne_of_lt hCl_KD)) (off_cons (off3_of (Nat.ne_of_gt hPL_Dt2) (Nat.ne_of_lt hDt_PL) (Nat.ne_of_lt hCl_PL)) (off_cons (off3_of (Nat.ne_of_gt hBw_Dt2) n5 n0) (off_cons (off3_of (Nat.ne_of_gt hW_Dt2) (Nat.ne_of_lt hDt_W) (Nat.ne_of_lt hCl_W)) (off_cons (off3_of (Nat.ne_of_gt hWP_Dt2) (Nat.ne_of_lt hDt_WP) (Nat.ne_of_lt hCl_WP)) (off_cons (off3_of (Nat.ne_of_gt hWL_Dt2) (Nat.ne_of_lt hDt_WL) (Nat.ne_of_lt hCl_WL)) (off_cons (off3_of (Nat.ne_of_gt ae) (Nat.ne_of_lt hDt_WO) (Nat.ne_of_lt hCl_WO)) off_nil)))))))))))))⟩
local macro_rules | `(tactic| k_ne) => `(tactic| first | (refine neN ?_; (try dsimp only); exact ne_rk (by assumption) (by assumption) (by decide)) | (refine neN ?_; (try dsimp only); omega))
local macro_rules | `(tactic| k_ne) => `(tactic| first | (refine neN ?_; (try dsimp only); exact ne_rk (by assumption) (by assumption) (by decide)) | (refine neN ?_; (try dsimp only); exact off1_ne (by assumption) (by k_mem)) | (refine neN ?_; (try dsimp only); exact off1_ne' (by assumption) (by k_mem)) | (refine neN ?_; (try dsimp only); omega))
local macro_rules | `(tactic| walk_at "call ref") => `(tactic| (k_here; (with_reducible show wpAny _ _ (call (Value.ref 110) _ _) _ _ _); (k_dflt (refine' does_use0 (does_octet _ _ _ _ _ _ _ _ _ _ _ ?lo ?hD ?p0 ?p1 ?hv) ?kB ?kF ?kX ?kN ?kT ?kk ?ks ?kd ?ku ?_; (case kB => k_asm); (case kF => k_asm); (case kX => k_asm); (case kN => k_asm); (case kT => k_asm); (case kk => first | exact rfl | assumption); (case ks => (refine List.forall_mem_cons.mpr ⟨by k_mem, ?_⟩; refine List.forall_mem_cons.mpr ⟨by k_mem, ?_⟩; refine List.forall_mem_cons.mpr ⟨by k_mem, ?_⟩; exact List.forall_mem_nil _)); (case lo => assumption); (case hD => assumption); (case p0 => omega); (case p1 => omega); (case hv => first | assumption | ((rename ∀ k : Int, 0 ≤ k → k < 8 → getI _ (256 + k) = some _ => hM9); exact hM9 _ (by omega) (by omega))); (case kd => ktr_room); (case ku => ktr_units); intro r9 h9 tk9 ho9 F' N'; (obtain ⟨t9, e9⟩ := ho9; subst e9); (try dsimp only); (try k_sweep)))))
local macro_rules | `(tactic| walk_at "call ref") => `(tactic| (k_here; (with_reducible show wpAny _ _ (call (Value.ref 117) _ _) _ _ _); (k_dflt (refine' use_set_octet ?kB ?kF ?kX ?kN ?kT ?kk ?m1 ?m2 ?U ?hD ?r3 ?r4 ?r5 ?p0 ?p1 ?hz ?kd ?ku ?_; (case kB => k_asm); (case kF => k_asm); (case kX => k_asm); (case kN => k_asm); (case kT => k_asm); (case kk => first | exact rfl | assumption); (case m1 => k_mem); (case m2 => k_mem); (case U => k_updF); (case hD => assumption); (case r3 => assumption); (case r4 => assumption); (case r5 => assumption); (case p0 => omega); (case p1 => omega); (case hz => omega); (case kd => ktr_room); (case ku => ktr_units); intro o9 h9 tk9 F' N' D9; (try dsimp only at N'); (try k_sweep)))))
local macro_rules | `(tactic| walk_at "call ref") => `(tactic| (k_here; (with_reducible show wpAny _ _ (call (Value.ref 204) _ _) _ _ _); (k_dflt (refine' use_take ?kB ?kF ?kX ?kN ?kT ?kk ?U ?p1 ?p2 ?p3 ?p4 ?p5 ?p6 ?p7 ?kd ?ku ?_; (case kB => k_asm); (case kF => k_asm); (case kX => k_asm); (case kN => k_asm); (case kT => k_asm); (case kk => first | exact rfl | assumption); (case U => k_updF); (case p1 => omega); (case p2 => omega); (case p3 => omega); (case p4 => omega); (case p5 => omega); (case p6 => omega); (case p7 => omega); (case kd => ktr_room); (case ku => ktr_units); intro v9 tv9 st9 sd9 ct9 t19 t29 t39 h9 tk9 F' N' b1 b2 b3 b4 b5 b6 b7; (try dsimp only at N'); (try k_sweep)))))
local macro_rules | `(tactic| walk_at "compareOp NotIn int ref") => `(tactic| (k_here; k_dflt (refine' notin_DI ?N ?m ?o ?D ?_; (case N => k_asm); (case m => k_mem); (case o => assumption); (case D => assumption))))
local macro_rules | `(tactic| walk_at "setItem ref int") => `(tactic| (k_here; k_dflt (refine' set_DI ?F ?N ?U ?D ?z ?_; (case F => k_asm); (case N => k_asm); (case U => k_updF); (case D => assumption); (case z => omega); intro h' o' F' N' D'; (try dsimp only at N'); (try k_sweep))))
local macro_rules | `(tactic| walk_at "getMethod ref") => `(tactic| (k_here; k_dflt (refine' getMethod_tab_any (knd := intKind _ _) (enc := PyData.int) ?k1 (tab_DI ?N ?m ?o ?D) ?_; (case k1 => exact rfl); (case N => k_asm); (case m => k_mem); (case o => assumption); (case D => assumption); k_whole)))
local macro_rules | `(tactic| walk_at "call builtin:dict.get") => `(tactic| (k_here; k_dflt (refine' get2_DI ?N ?m ?o ?D ?_; (case N => k_asm); (case m => k_mem); (case o => assumption); (case D => assumption); intro t')))
local macro_rules | `(tactic| walk_at "call builtin:list.append") => `(tactic| (k_here; (try dsimp only [List.cons_append, List.nil_append]); (with_reducible show wpAny _ _ (call (Value.builtin _) [Value.ref _, _]) _ _ _); k_dflt (refine' append_K ?k1 ?k2 ?k3 ?_ ?z; (case k1 => k_asm); (case k2 => k_asm); (case k3 => k_upd); (case z => assumption); k_whole); intro h' F' N'; (try k_sweep)))
local macro_rules | `(tactic| ktr_rel) => `(tactic| first | (refine' UpdF2.one ?a ?b ?c; (case a => k_all); (case b => k_ne); (case c => k_updF)) | (refine' UpdF2.two ?a ?b ?c; (case a => k_all); (case b => k_ne); (case c => k_updF)) | (refine' UpdF2.skip ?a ?b ?c; (case a => k_ne); (case b => k_ne); (case c => ktr_rel)))
local macro_rules | `(tactic| walk_at "call ref") => `(tactic| (k_here; (with_reducible show wpAny _ _ (call (Value.ref 61) _ _) _ _ _); (k_dflt (refine' use_lift ?kB ?kF ?kX ?kN ?kT ?kk ?m1 ?m4 ?m5 ?m6 ?U ?lo ?lo2 ?hD ?hK ?hM ?z2 ?r1 ?r2 ?r3 ?r4 ?r5 ?r6 ?kd ?ku ?_; (case kB => k_asm); (case kF => k_asm); (case kX => k_asm); (case kN => k_asm); (case kT => k_asm); (case kk => first | exact rfl | assumption); (case m1 => k_mem); (case m4 => k_mem); (case m5 => k_mem); (case U => ktr_rel); (case m6 => k_mem); (case lo => assumption); (case lo2 => assumption); (case hD => assumption); (case hK => assumption); (case hM => assumption); (case z2 => omega); (case r1 => assumption); (case r2 => assumption); (case r3 => assumption); (case r4 => assumption); (case r5 => assumption); (case r6 => assumption); (case kd => ktr_room); (case ku => ktr_units); intro KD9 oK9 oH9 l9 h9 tk9 F' N' n9 d9 d8 e9 e8 e7; (try dsimp only at N'); (try k_sweep)))))
local macro_rules | `(tactic| walk_at "call ref") => `(tactic| (k_here; (with_reducible show wpAny _ _ (call (Value.ref 209) _ _) _ _ _); (k_dflt (refine' use_octs ?kB ?kF ?kX ?kN ?kT ?kk ?m4 ?m5 ?m7 ?lo ?hD ?hM ?kd ?ku ?_; (case kB => k_asm); (case kF => k_asm); (case kX => k_asm); (case kN => k_asm); (case kT => k_asm); (case kk => first | exact rfl | assumption); (case m4 => k_mem); (case m5 => k_mem); (case m7 => k_mem); (case lo => assumption); (case hD => assumption); (case hM => assumption); (case kd => ktr_room); (case ku => ktr_units); intro D9 vs9 ep9 h9 tk9 F' N' n9 i9; (try dsimp only at N'); (try k_sweep)))))
local macro_rules | `(tactic| walk_at "call ref") => `(tactic| (k_here; (with_reducible show wpAny _ _ (call (Value.ref 209) _ _) _ _ _); (rename Once => tok9); clear tok9; refine Halt.mk ?_))
local macro_rules | `(tactic| walk_at "eval ListComp") => `(tactic| (k_here; k_dflt (refine LCt.ListComp_T (F₀ := by k_asm) (by with_unfolding_all rfl) (by decide) (by rfl) (by decide) (by rfl) ?_); k_dflt lct_toSrc))
local macro_rules | `(tactic| walk_at "CompSrcT") => `(tactic| (k_here; refine Halt.mk ?_))
local macro_rules | `(tactic| walk_at "CompSrc") => `(tactic| (k_here; refine Halt.mk ?_))
local macro_rules | `(tactic| walk_at "exec For Name Call cons nil") => `(tactic| (k_here; (rename Fr _ _ _ _ => lF'); (with_unfolding_all refine' For_invVF lF' ?k1 ?k2 ?_; (case k1 => exact rfl); (case k2 => exact rfl); k_whole)))
local macro_rules | `(tactic| walk_at "pyIter ref") => `(tactic| ((with_reducible show wpAny _ _ (pyIter (Value.ref _)) (fun it s₂ => LoopAtV _ _ _ _ _ _ _ _ _ it s₂) _ _); refine Halt.mk ?_))
local macro_rules | `(tactic| walk_at "Turn2") => `(tactic| (dsimp only [Turn2]))
local macro_rules | `(tactic| walk_at "TurnEnd") => `(tactic| (refine Halt.mk ?_))
local macro_rules | `(tactic| walk_at "FinE") => `(tactic| ((unfold LCg.FinE); intro D' h' tk' F' N' o1'; (try simp only [List.nil_append, List.cons_append] at N'); (try dsimp only)))
local macro_rules | `(tactic| walk_at "FinA") => `(tactic| ((unfold LCg.FinA); intro D' h' tk' F' N' o1'; (try simp only [List.nil_append, List.cons_append] at N'); (try dsimp only)))
local macro_rules | `(tactic| walk_at "newList") => `(tactic| (k_here; k_dflt (refine' newList_K ?k1 ?k2 ?_; (case k1 => k_asm); (case k2 => k_asm); k_whole); intro l' h' F' N' l1; (replace l1 := off1_all l1); (try k_sweep)))
local macro_rules | `(tactic| k_all) => `(tactic| exact off1_rest (by assumption) (fun p hp => by repeat (first | exact hp | refine List.Mem.tail _ ?_)))
local macro_rules | `(tactic| walk_at "compareOp NotEq ref ref") => `(tactic| (k_here; (with_reducible show wpAny _ _ (compareOp CmpOp.NotEq (Value.ref _) (Value.ref _)) _ _ _); k_dflt (refine' ne_DI0 ?N ?ma ?mb ?la ?lb ?da ?db ?hu ?_; (case N => k_asm); (case ma => k_mem); (case mb => k_mem); (case la => assumption); (case lb => assumption); (case da => first | assumption | (refine' DI.nil ?x ?y; (case x => assumption); (case y => assumption))); (case db => first | assumption | (refine' DI.nil ?x ?y; (case x => assumption); (case y => assumption))); (case hu => ktr_units))))
local macro_rules | `(tactic| walk_at "compareOp Eq ref ref") => `(tactic| (k_here; (with_reducible show wpAny _ _ (compareOp CmpOp.Eq (Value.ref _) (Value.ref _)) _ _ _); k_dflt (refine' eq_DI0 ?N ?ma ?mb ?la ?lb ?da ?db ?hu ?_; (case N => k_asm); (case ma => k_mem); (case mb => k_mem); (case la => assumption); (case lb => assumption); (case da => first | assumption | (refine' DI.nil ?x ?y; (case x => assumption); (case y => assumption))); (case db => first | assumption | (refine' DI.nil ?x ?y; (case x => assumption); (case y => assumption))); (case hu => ktr_units))))
set_option maxRecDepth 100000 in
set_option maxHeartbeats 8000000 in
theorem law_end (w : World) {mean : ExcName → Option Value} {mg mb : Str → Option Value} {g : Heap} {L fa : Addr} {cd : Value} {m : Str → Option Value} {led rest : List (Addr × Obj)} {s : Shared} {Q : Flow → Shared → Prop} {E : Value → Shared → Prop} (Pn Pi Pd Mi Md H Bw W : Addr) (k1 k2 k3 kt : Tok) (y1 y2 y3 hh : Int) (hlo : (H == sysModules) = false) (hWd : Wd w Pn Pi Pd Mi Md H Bw W k1 k2 k3 kt y1 y2 y3 hh 12 led)
    (B : Below callerA g [] g) (F : Fr g L s.heap m) (X : (hd.heap_39 w.params).In g) (N : News g L s.heap (led ++ rest)) (T : Top hd.view_39 (looseW hd.view_39 []) mean mg mb g) (hoff : OwnOff rest (led.map (·.1)))
    (f1 : m (PySem.Str.ofString "points") = some (.ref Pi)) (f2 : m (PySem.Str.ofString "memory") = some (.ref Mi)) (f3 : m (PySem.Str.ofString "below") = some (.ref Bw))
    (ret : ∀ m' all h' tk', Fr g L h' m' → News g L h' all → Q (.ret (.bool true)) { s with heap := h', toks := tk' }) :
    wpAny (model PySem.Challenge.rw_qd0109_01.row.prog w) (callerA.deeper (envOfC (PySem.Str.ofString "law") (fnAt w 219).scope L fa cd)) (execs ((bodyAt w 219).drop 5) (envOfC (PySem.Str.ofString "law") (fnAt w 219).scope L fa cd)) Q E s := by
  have em : m = fun y => if y = PySem.Str.ofString "points" then some (.ref Pi) else if y = PySem.Str.ofString "memory" then some (.ref Mi) else if y = PySem.Str.ofString "below" then some (.ref Bw) else m y := by
    funext y
    by_cases h1 : y = PySem.Str.ofString "points"
    · rw [if_pos h1, h1, f1]
    · by_cases h2 : y = PySem.Str.ofString "memory"
      · rw [if_neg h1, if_pos h2, h2, f2]
      · by_cases h3 : y = PySem.Str.ofString "below"
        · rw [if_neg h1, if_neg h2, if_pos h3, h3, f3]
        · rw [if_neg h1, if_neg h2, if_neg h3]
  rw [em] at F
  clear em f1 f2 f3
  revert X
  k_fill
  intro X
  obtain ⟨KD, PL, WP, WL, WO, st, sd, ct, t1, t2, t3, ep, epl, epb, e1, e2, e3, oH, oK, oW, l, kl, vs, bs, vp, vl, vo, ps, bl, wp, wl, wo, rfl, hnd, hst, hsd, hsd2, hct, hct2, hlo2, hD, hK, hW, hI, hl, hps, hwp, hwl, hwo, i1, i2, i3, i4, i5⟩ := hWd
  have r0 := rk_at hnd 0 rfl
  have r1 := rk_at hnd 1 rfl
  have r2 := rk_at hnd 2 rfl
  have r3 := rk_at hnd 3 rfl
  have r4 := rk_at hnd 4 rfl
  have r5 := rk_at hnd 5 rfl
  have r6 := rk_at hnd 6 rfl
  have r7 := rk_at hnd 7 rfl
  have r8 := rk_at hnd 8 rfl
  have r9 := rk_at hnd 9 rfl
  have r10 := rk_at hnd 10 rfl
  have r11 := rk_at hnd 11 rfl
  have r12 := rk_at hnd 12 rfl
  simp only [List.cons_append, List.nil_append] at N
  simp only [List.map_cons, List.map_nil] at hoff
  rw [show (bodyAt w 219).drop 5 = [_, _] from rfl, show (fnAt w 219).scope = Scope.mk _ _ _ _ _ from rfl]
  have q1 := hI.there
  have q2 : ∀ p, (getI kl p).isSome = true → 256 ≤ p ∧ p < 264 ∧ (getI l p).isSome = true := fun p hp => by
    obtain ⟨z1, z2, z3⟩ := hI.keys p hp
    have := hI.there (p - 256) (by omega) (by omega)
    rw [show 256 + (p - 256) = p by omega] at this
    exact ⟨z1, z2, this⟩
  have q4 := few_DI hK fun p hp => ⟨(q2 p hp).1, (q2 p hp).2.1⟩
  w_on
  have tok : Once := trivial
  k_steps
  rename_i KD9 oK9 oH9 l9 h9 tk9 F9 N9 n9 d9 d8 e9 e8 e7
  have hI9 : Inv (getI l9) (getI []) bl ps wp [] [] := hI.lift (fun p => (getI_mem (l := kl)).symm) e7 (fun p => rfl)
  have q5 := hI9.dues
  have q9 := dues_nil hI.blen
  refine Halt.out ?_
  k_steps
  exact ret _ _ _ _ (by assumption) (by assumption)
end Mine
namespace Mine
theorem base_bits : Builtin.Int.intBits BASE ≤ 100 := intBits_le_iff.mpr (by decide)
theorem pen_mul {a : Int} {i : Nat} (ha : Builtin.Int.intBits a ≤ 200 * i + 1) (hi : i < 40) : IntMulOk a BASE := IntMulOk.of_le ha base_bits (by omega)
theorem pen_step {a k : Int} {i : Nat} (h0 : 0 ≤ a) (ha : Builtin.Int.intBits a ≤ 200 * i + 1) : 0 ≤ a * BASE + Int.fmod k BASE ∧ Builtin.Int.intBits (a * BASE + Int.fmod k BASE) ≤ 200 * (i + 1) + 1 := by
  have p : (0 : Int) < BASE := by decide
  have r0 := Int.fmod_nonneg_of_pos k p
  have r1 := Int.fmod_lt_of_pos k p
  refine ⟨Int.add_nonneg (Int.mul_nonneg h0 (Int.le_of_lt p)) r0, ?_⟩
  have hb : Builtin.Int.intBits (Int.fmod k BASE) ≤ 100 := intBits_le_of_natAbs (by omega) base_bits
  refine Nat.le_trans (intBits_add_le (intBits_mul_le ha base_bits) hb) ?_
  omega
local macro_rules | `(tactic| k_room) => `(tactic| ktr_room)
local macro_rules | `(tactic| k_units) => `(tactic| ktr_units)
local macro_rules | `(tactic| k_ne) => `(tactic| first | (refine neN ?_; (try dsimp only); exact ne_rk (by assumption) (by assumption) (by decide)) | (refine neN ?_; (try dsimp only); omega))
local macro_rules | `(tactic| k_ne) => `(tactic| first | (refine neN ?_; (try dsimp only); exact ne_rk (by assumption) (by assumption) (by decide)) | (refine neN ?_; (try dsimp only); exact off1_ne (by assumption) (by k_mem)) | (refine neN ?_; (try dsimp only); exact off1_ne' (by assumption) (by k_mem)) | (refine neN ?_; (try dsimp only); omega))
local macro_rules | `(tactic| walk_at "call ref") => `(tactic| (k_here; (with_reducible show wpAny _ _ (call (Value.ref 190) _ _) _ _ _); (k_dflt (refine' does_use0 (pre := []) (R := fun r => ∃ t', r = .int BASE t') (does_base _) ?kB ?kF ?kX ?kN ?kT ?kk ?ks ?kd ?ku ?_; (case kB => k_asm); (case kF => k_asm); (case kX => k_asm); (case kN => k_asm); (case kT => k_asm); (case kk => first | exact rfl | assumption); (case ks => (exact fun _ h => nomatch h)); skip; (case kd => ktr_room); (case ku => ktr_units); intro r9 h9 tk9 ho9 F' N'; (obtain ⟨t9, e9⟩ := ho9; subst e9); (try dsimp only); (try k_sweep)))))
local macro_rules | `(tactic| walk_at "exec For Name Call cons nil") => `(tactic| (k_here; (rename Fr _ _ _ _ => lF'); (with_unfolding_all refine' For_invVF lF' ?k1 ?k2 ?_; (case k1 => exact rfl); (case k2 => exact rfl); k_whole)))
local macro_rules | `(tactic| walk_at "pyIter ref") => `(tactic| ((with_reducible show wpAny _ _ (pyIter (Value.ref _)) (fun it s₂ => LoopAtV _ _ _ _ _ _ _ _ _ it s₂) _ _); refine Halt.mk ?_))
local macro_rules | `(tactic| walk_at "Turn2") => `(tactic| (dsimp only [Turn2]))
local macro_rules | `(tactic| walk_at "TurnEnd") => `(tactic| (refine Halt.mk ?_))
local macro_rules | `(tactic| walk_at "exec For Name Subscript cons nil") => `(tactic| (k_here; (rename Fr _ _ _ _ => lF'); (with_unfolding_all refine' For_invVF lF' ?k1 ?k2 ?_; (case k1 => exact rfl); (case k2 => exact rfl); k_whole)))
local macro_rules | `(tactic| walk_at "binaryOp Mult int int") => `(tactic| ((with_reducible refine P.mul_int ?_ ?mm); (case mm => (refine pen_mul (by assumption) (by assumption)))))
local macro_rules | `(tactic| walk_at "newList") => `(tactic| (k_here; k_dflt (refine' newList_K ?k1 ?k2 ?_; (case k1 => k_asm); (case k2 => k_asm); k_whole); intro l' h' F' N' l1; (replace l1 := off1_all l1); (try k_sweep)))
set_option maxRecDepth 100000 in
set_option maxHeartbeats 8000000 in
theorem pen_call (w : World) {mean : ExcName → Option Value} {mg mb : Str → Option Value} {dp un : Nat} {gd : Option (List Code)} {cn : Str} {cs : Scope} {a : Addr} {ccd : Value} {cl : List (Str × Addr)} {outer : List Env} {A₀ : Around} {base h₀ : Heap} {L : Addr} {m : Str → Option Value} {rest : List (Addr × Obj)} {s : Shared} {Q E : Value → Shared → Prop} {S : Addr} {vs : List Value} {ns : List Int} (hS : base.IsList S vs.toArray) (hns : IntsAre vs ns) (hlen : ns.length ≤ 63)
    (B : Below A₀ base outer h₀) (F : Fr h₀ L s.heap m) (X : (hd.heap_39 w.params).In h₀) (N : News h₀ L s.heap rest) (T : Top hd.view_39 (looseW hd.view_39 []) mean mg mb h₀) (hk : cs.kind = .function)
    (hdN : dp + 10 < recursionLimit) (huN : un + 100 < cLine)
    (ret : ∀ D st sd t1 t2 t3 h' tk', 0 ≤ st → 0 ≤ sd → sd < 2147483647 → Fr h₀ L h' m → News h₀ L h' ((D, listOf #[.int st t1, .int sd t2, .int 0 t3] 0) :: rest) → (∀ p ∈ rest, p.1 ≠ D) → Q (.ref D) { s with heap := h', toks := tk' }) :
    wpAny (model PySem.Challenge.rw_qd0109_01.row.prog w) (ktrTop dp un gd cn cs L a ccd cl outer) (call (.ref 197) [.ref S]) Q E s := by
  revert X
  k_fill
  intro X
  w_on
  refine wpAny_call ?_
  k_dflt ktr_enter
  rename Below _ _ _ _ => B'
  have hS' := stays_list (Below.stays B') hS
  k_steps
  refine Halt.out ?_
  rename IntsAre _ (List.reverse _) => hR
  rename News _ _ _ _ => kN
  rename Fr _ _ _ _ => kF
  refine iter_ledI (PySem.Str.ofString "store") (fun i a => 0 ≤ a ∧ Builtin.Int.intBits a ≤ 200 * i + 1) (by decide) rfl kN (.head _) hR kF kN (by rfl) ⟨by decide, by decide⟩ ?_ ?_
  · intro i k t a ta h tk own hk2 hp F1 N1
    have hi : i < 40 := by
      have := (List.getElem?_eq_some_iff.mp hk2).1
      rw [List.length_reverse, List.length_take] at this
      omega
    obtain ⟨hp0, hp1⟩ := hp
    have hq := pen_step (k := k) hp0 hp1
    k_steps
    exact ⟨_, _, _, _, _, rfl, by assumption, by assumption, by rfl, hq, fun z h1 h2 => by simp only [if_neg h1, if_neg h2]⟩
  · intro u a ta h tk hp F1 N1
    have hp0 := hp.1
    k_steps
    rename LCg.Off1 _ _ => o9
    rename News h₀ _ _ _ => kN2
    have f0 := Int.fmod_nonneg_of_pos (ns.length : Int) (by decide : (0 : Int) < 1000)
    have f1 := Int.fmod_lt_of_pos (ns.length : Int) (by decide : (0 : Int) < 1000)
    exact ret _ _ (139 + Int.fmod (ns.length : Int) 1000) _ _ _ _ _ hp0 (by omega) (by omega) (by assumption) (fun p hp => kN2 p (by rcases List.mem_cons.mp hp with h | h; exact h ▸ .head _; exact .tail _ (.tail _ (.tail _ h)))) (off1_mem o9.2.2)
local macro_rules | `(tactic| walk_at "call ref") => `(tactic| (k_here; (with_reducible show wpAny _ _ (call (Value.ref 214) _ _) _ _ _); (k_dflt (refine' deed_call _ _ _ _ _ _ _ _ _ _ _ _ _ _ _ _ _ ?hn ?hlo ?hW ?kB ?kF ?kX ?kN ?kT ?kk ?ho ?kd ?ku ?_; (case hW => assumption); (case kB => k_asm); (case kF => k_asm); (case kX => k_asm); (case kT => k_asm); (case kk => exact rfl); (case hlo => assumption); (case hn => assumption); (case kN => assumption); (case ho => assumption); (case kd => ktr_room); (case ku => ktr_units); intro led9 h9 tk9 W9 F' N' off9; (try k_sweep)))))
noncomputable def turnBody (w : World) : List Stmt := match (bodyAt w 219).drop 4 with
  | .For _ _ b _ _ :: _ => b
  | _ => []
set_option maxRecDepth 100000 in
set_option maxHeartbeats 8000000 in
theorem law_turn (w : World) {mean : ExcName → Option Value} {mg mb : Str → Option Value} {g : Heap} {L fa : Addr} {cd : Value} {m m₀ : Str → Option Value} {x : Str} {led rest : List (Addr × Obj)} {oC : Obj} {s : Shared} {Q : Flow → Shared → Prop} {E : Value → Shared → Prop} (Pn Pi Pd Mi Md H Bw W : Addr) (k1 k2 k3 kt : Tok) (y1 y2 y3 hh : Int) {i : Nat} (hi : i < 12) (hlo : (H == sysModules) = false) (hWd : Wd w Pn Pi Pd Mi Md H Bw W k1 k2 k3 kt y1 y2 y3 hh i led)
    (B : Below callerA g [] g) (F : Fr g L s.heap m) (X : (hd.heap_39 w.params).In g) (N : News g L s.heap (led ++ rest)) (T : Top hd.view_39 (looseW hd.view_39 []) mean mg mb g) (hoff : OwnOff rest (led.map (·.1)))
    (f1 : m (PySem.Str.ofString "points") = some (.ref Pi)) (f2 : m (PySem.Str.ofString "world") = some (.ref W)) (f3 : m (PySem.Str.ofString "below") = some (.ref Bw)) (hc : (L + 1, oC) ∈ rest) (dC : oC.data = .cell (some (.ref Pn))) (hm : ∀ z, z ≠ x → m z = m₀ z) :
    wpAny (model PySem.Challenge.rw_qd0109_01.row.prog w) (callerA.deeper (envOfC (PySem.Str.ofString "law") (fnAt w 219).scope L fa cd)) (execs (turnBody w) (envOfC (PySem.Str.ofString "law") (fnAt w 219).scope L fa cd)) (TurnL w Pn Pi Pd Mi Md H Bw W k1 k2 k3 kt y1 y2 y3 hh (i + 1) rest g L m₀ x s Q) E s := by
  have em : m = fun y => if y = PySem.Str.ofString "points" then some (.ref Pi) else if y = PySem.Str.ofString "world" then some (.ref W) else if y = PySem.Str.ofString "below" then some (.ref Bw) else m y := by
    funext y
    by_cases h1 : y = PySem.Str.ofString "points"
    · rw [if_pos h1, h1, f1]
    · by_cases h2 : y = PySem.Str.ofString "world"
      · rw [if_neg h1, if_pos h2, h2, f2]
      · by_cases h3 : y = PySem.Str.ofString "below"
        · rw [if_neg h1, if_neg h2, if_pos h3, h3, f3]
        · rw [if_neg h1, if_neg h2, if_neg h3]
  have hm2 := hm
  rw [em] at hm2
  rw [em] at F
  clear em f1 f2 f3 hm
  revert X
  k_fill
  intro X
  rw [show turnBody w = [_] from rfl, show (fnAt w 219).scope = Scope.mk _ _ _ _ _ from rfl]
  have N2 : News g L s.heap [(L + 1, oC)] := fun p hp => N p (List.mem_append_right _ (List.mem_singleton.mp hp ▸ hc))
  w_on
  k_steps
  exact ⟨_, _, _, _, rfl, by assumption, by assumption, by assumption, by assumption, hm2⟩
local macro_rules | `(tactic| walk_at "call ref") => `(tactic| (k_here; (with_reducible show wpAny _ _ (call (Value.ref 110) _ _) _ _ _); (k_dflt (refine' does_use0 (does_octet _ _ _ _ _ _ _ _ _ _ _ ?lo ?hD ?p0 ?p1 ?hv) ?kB ?kF ?kX ?kN ?kT ?kk ?ks ?kd ?ku ?_; (case kB => k_asm); (case kF => k_asm); (case kX => k_asm); (case kN => k_asm); (case kT => k_asm); (case kk => first | exact rfl | assumption); (case ks => (refine List.forall_mem_cons.mpr ⟨by k_mem, ?_⟩; refine List.forall_mem_cons.mpr ⟨by k_mem, ?_⟩; refine List.forall_mem_cons.mpr ⟨by k_mem, ?_⟩; exact List.forall_mem_nil _)); (case lo => assumption); (case hD => assumption); (case p0 => omega); (case p1 => omega); (case hv => first | assumption | ((rename ∀ k : Int, 0 ≤ k → k < 8 → getI _ (256 + k) = some _ => hM9); exact hM9 _ (by omega) (by omega))); (case kd => ktr_room); (case ku => ktr_units); intro r9 h9 tk9 ho9 F' N'; (obtain ⟨t9, e9⟩ := ho9; subst e9); (try dsimp only); (try k_sweep)))))
local macro_rules | `(tactic| walk_at "call ref") => `(tactic| (k_here; (with_reducible show wpAny _ _ (call (Value.ref 204) _ _) _ _ _); (k_dflt (refine' use_take ?kB ?kF ?kX ?kN ?kT ?kk ?U ?p1 ?p2 ?p3 ?p4 ?p5 ?p6 ?p7 ?kd ?ku ?_; (case kB => k_asm); (case kF => k_asm); (case kX => k_asm); (case kN => k_asm); (case kT => k_asm); (case kk => first | exact rfl | assumption); (case U => k_updF); (case p1 => omega); (case p2 => omega); (case p3 => omega); (case p4 => omega); (case p5 => omega); (case p6 => omega); (case p7 => omega); (case kd => ktr_room); (case ku => ktr_units); intro v9 tv9 st9 sd9 ct9 t19 t29 t39 h9 tk9 F' N' b1 b2 b3 b4 b5 b6 b7; (try dsimp only at N'); (try k_sweep)))))
local macro_rules | `(tactic| walk_at "compareOp NotIn int ref") => `(tactic| (k_here; k_dflt (refine' notin_DI ?N ?m ?o ?D ?_; (case N => k_asm); (case m => k_mem); (case o => assumption); (case D => assumption))))
local macro_rules | `(tactic| walk_at "setItem ref int") => `(tactic| (k_here; k_dflt (refine' set_DI ?F ?N ?U ?D ?z ?_; (case F => k_asm); (case N => k_asm); (case U => k_updF); (case D => assumption); (case z => omega); intro h' o' F' N' D'; (try dsimp only at N'); (try k_sweep))))
local macro_rules | `(tactic| walk_at "getMethod ref") => `(tactic| (k_here; k_dflt (refine' getMethod_tab_any (knd := intKind _ _) (enc := PyData.int) ?k1 (tab_DI ?N ?m ?o ?D) ?_; (case k1 => exact rfl); (case N => k_asm); (case m => k_mem); (case o => assumption); (case D => assumption); k_whole)))
local macro_rules | `(tactic| walk_at "call builtin:dict.get") => `(tactic| (k_here; k_dflt (refine' get2_DI ?N ?m ?o ?D ?_; (case N => k_asm); (case m => k_mem); (case o => assumption); (case D => assumption); intro t')))
local macro_rules | `(tactic| walk_at "call ref") => `(tactic| (k_here; (with_reducible show wpAny _ _ (call (Value.ref 197) _ _) _ _ _); (k_dflt (refine' pen_call _ ?hS ?hns ?hlen ?kB ?kF ?kX ?kN ?kT ?kk ?kd ?ku ?_; (case kB => k_asm); (case kF => k_asm); (case kX => k_asm); (case kN => k_asm); (case kT => k_asm); (case kk => first | exact rfl | assumption); (case hS => assumption); (case hns => assumption); (case hlen => omega); (case kd => ktr_room); (case ku => ktr_units); intro D9 st9 sd9 t19 t29 t39 h9 tk9 b1 b2 b3 F' N' o9; (replace o9 := off1_of o9); (try dsimp only at N'); (try k_sweep)))))
local macro_rules | `(tactic| walk_at "eval ListComp") => `(tactic| (k_here; k_dflt (refine LCt.ListComp_T (F₀ := by k_asm) (by with_unfolding_all rfl) (by decide) (by rfl) (by decide) (by rfl) ?_); k_dflt lct_toSrc))
local macro_rules | `(tactic| walk_at "CompSrcT") => `(tactic| (k_here; refine Halt.mk ?_))
local macro_rules | `(tactic| walk_at "CompSrc") => `(tactic| (k_here; refine Halt.mk ?_))
local macro_rules | `(tactic| walk_at "newList") => `(tactic| (k_here; k_dflt (refine' newList_K ?k1 ?k2 ?_; (case k1 => k_asm); (case k2 => k_asm); k_whole); intro l' h' F' N' l1; (have l1a := off1_all l1); (try k_sweep)))
local macro_rules | `(tactic| walk_at "FinE") => `(tactic| ((unfold LCg.FinE); intro D' h' tk' F' N' o1'; (try simp only [List.nil_append, List.cons_append] at N'); (try dsimp only)))
local macro_rules | `(tactic| walk_at "FinA") => `(tactic| ((unfold LCg.FinA); intro D' h' tk' F' N' o1'; (try simp only [List.nil_append, List.cons_append] at N'); (try dsimp only)))
local macro_rules | `(tactic| walk_at "call ref") => `(tactic| (k_here; (with_reducible show wpAny _ _ (call (Value.ref 117) _ _) _ _ _); (k_dflt (refine' use_set_octet ?kB ?kF ?kX ?kN ?kT ?kk ?m1 ?m2 ?U ?hD ?r3 ?r4 ?r5 ?p0 ?p1 ?hz ?kd ?ku ?_; (case kB => k_asm); (case kF => k_asm); (case kX => k_asm); (case kN => k_asm); (case kT => k_asm); (case kk => first | exact rfl | assumption); (case m1 => k_mem); (case m2 => k_mem); (case U => k_updF); (case hD => assumption); (case r3 => assumption); (case r4 => assumption); (case r5 => assumption); (case p0 => omega); (case p1 => omega); (case hz => exact Nat.le_of_ble_eq_true rfl); (case kd => ktr_room); (case ku => ktr_units); intro o9 h9 tk9 F' N' D9; (try dsimp only at N'); (try k_sweep)))))
local macro_rules | `(tactic| walk_at "execs cons") => `(tactic| (k_here; (rename Once => tok9); clear tok9; refine Halt.mk ?_))
set_option maxRecDepth 100000 in
set_option maxHeartbeats 8000000 in
theorem law_holds : PySem.Challenge.rw_qd0109_01.Holds := hd (by
  w_on
  w_strict (k_go0; (all_goals try k_fold))
  k_steps
  rename_i D9 st9 sd9 t19 t29 t39 h9 tk9 b1 b2 b3 o9 x1 d2 h8 l12 l2 g1 L1 h7 B1 X1 T1 lf2 lf1 lf0 tk1 d1 h6 o1 lo1 hs1 fs1 hi1 fi1 l11 h5 F5 N5 Gc kX5 Dt h4 l10 h3 h2 oC dC h1 F1 N1 h0 tk0 ta tb tc a3 a2 a1 a0
  have hDI : DI _ o1 [] := ⟨[], hi1, fi1⟩
  obtain ⟨rk, r3, r4, r5⟩ := rk_three (a := x1) (b := d2) (c := d1) (by omega) (by omega) (by omega)
  rename Fr _ _ _ _ => kF
  refine Halt.out ?_
  rename News _ _ _ _ => kN
  refine gen_rng (n := 8) (PenJ [_, _, _, _] _ [_]) (by rfl) kF kN (by assumption) (by decide) (by decide) (by decide) ⟨_, _, _, _, _, _, rfl, by assumption, by assumption, by assumption, by decide, by decide, fun _ h => nomatch h⟩ ?_ ?_
  · intro k t I oI C oC D m₂ ys zs nx h tk E' hk hlt hy hJ hC hx F N off ne
    obtain ⟨st, sd, ct, t1, t2, t3, rfl, c1, c2, c3, c4, c5, c6⟩ := hJ
    simp only [List.cons_append, List.nil_append] at N off
    simp only [LCg.Off3, and_true] at off
    k_steps
    rename News _ _ _ _ => kN2
    refine ⟨_, _, _, _, [_, _, _, _] ++ (_, _) :: [_], rfl, rfl, by assumption, fun p hp => kN2 p (.tail _ hp), (by simp only [List.cons_append, List.nil_append, LCg.Off3, and_true]; exact off), _, _, _, _, _, _, rfl, by assumption, by assumption, by assumption, by assumption, (by rw [List.length_append, List.length_singleton]; omega), fun z hz => (List.mem_append.mp hz).elim (c6 z) fun hz2 => ?_⟩
    rw [List.mem_singleton.mp hz2]
    exact four (by assumption) (by assumption)
  · intro g ys zs nx hz hy hJ
    obtain ⟨st, sd, ct, t1, t2, t3, rfl, c1, c2, c3, c4, c5, c6⟩ := hJ
    rw [hz] at c5
    obtain ⟨z0, z1, z2, z3, z4, z5, z6, z7, u0, u1, u2, u3, u4, u5, u6, u7, rfl, rfl⟩ := ints8 hy hz
    k_steps
    rename_i Bw v0 v1 oB v2 v3 v4 v5 v6 v7 v8 v9 v10 v11 v12 v13 v14 v15 v16 v17 v18 v19 v20 v21 v22 v23 v24 v25 v26 v27 v28 v29 v30 v31 v32 v33 v34 v35 v36 v37 v38 v39 v40 v41 v42 v43 v44 v45 v46 v47 v48 v49 v50 v51 v52 v53 v54 v55 v56 v57 v58 v59 v60 v61 v62 v63 v64 v65 v66 v67 v68 v69 v70 v71 v72 v73 v74 v75 v76 v77 v78 v79 v80 v81 v82 v83 v84 v85 v86 v87 v88 v89 v90 v91 v92 v93 v94 v95 v96 v97 v98 v99 v100 v101 v102 v103 v104 v105 v106 v107 v108 v109 v110 v111 v112 v113 v114 v115 v116 v117 v118 v119 v120 v121 v122 v123 v124 v125 v126 v127 v128 v129 v130 v131 v132 v133 v134 v135 oH v136 v137 hD8 v138 v139 Pi Pd v140 v141 v142 q7 q8 v143 v144 v145 v146 v147 v148 v149 v150 v151 v152 v153 v154 PL v155 q6 p6 v156 v157 KD v158 oK lo2 v159 v160 hiK fiK q5 v161 v162 v163 v164 v165 W v166 v167 v168 v169 q4 WP v170 q3 p3 WL v171 q2 p2 WO v172 q1 p1 v173 oW hdW Dt2 v174 q0 v175 v176 v177 v178 v179 v180 v181 v182 v183 v184 kr kF kN v185
    simp only [List.cons_append, List.nil_append] at oB
    have hI0 := eight_inv c6
    have hD0 : DI _ oH (eight z0 z1 z2 z3 z4 z5 z6 z7) := hD8
    have hK0 : DI _ oK [] := ⟨[], hiK, fiK⟩
    have hW0 : WI _ oW WP WL WO := hdW
    refine Halt.out ?_
    have hnd := (order13 (o1 := oH) (o2 := oH) (o3 := oH) l12.2 o9.1 l12.1 l2 l11.1 l10.1 oB.2.2.2.2.2.1 oB.2.2.2.2.1 oB.2.2.2.1 oB.2.2.1 oB.2.1 oB.1 q7.1 q7.2.1 q8 (q6 _ (.head _)) q5.1 q4.1 (q3 _ (.head _)) (q2 _ (.head _)) (q1 _ (.head _)) q0.1).1
    refine' law_start (rest := [(_, _), (_, _), (_, oC)]) kN ?m2 ?m1 ?m0 ?m3 ?m4 ?m5 ?m6 ?m7 ?m8 ?m9 ?m10 ?m11 ?m12 ?hr hnd (order13 l12.2 o9.1 l12.1 l2 l11.1 l10.1 oB.2.2.2.2.2.1 oB.2.2.2.2.1 oB.2.2.2.1 oB.2.2.1 oB.2.1 oB.1 q7.1 q7.2.1 q8 (q6 _ (.head _)) q5.1 q4.1 (q3 _ (.head _)) (q2 _ (.head _)) (q1 _ (.head _)) q0.1).2 c1 c2 c3 c4 c5 lo2 hD0 hK0 hW0 hy hI0 eight_len ?next
    case m2 => k_mem
    case m1 => k_mem
    case m0 => k_mem
    case m3 => k_mem
    case m4 => k_mem
    case m5 => k_mem
    case m6 => k_mem
    case m7 => k_mem
    case m8 => k_mem
    case m9 => k_mem
    case m10 => k_mem
    case m11 => k_mem
    case m12 => k_mem
    case hr => w_strict (refine List.forall_mem_cons.mpr ⟨by k_mem, ?_⟩; refine List.forall_mem_cons.mpr ⟨by k_mem, ?_⟩; refine List.forall_mem_cons.mpr ⟨by k_mem, ?_⟩; exact List.forall_mem_nil _)
    intro led rest hrest hWd N9 hoff9
    refine iter_law hWd (by rfl) kr (by decide) (by decide) kF N9 hoff9 ?_ ?_
    · clear hWd N9 hoff9 kN kF
      intro i k t led h tk rest2 hi hsub hWd F N hoff
      exact law_turn _ D9 Pi Pd x1 d2 d1 Bw W _ _ _ _ _ _ _ _ hi lo1 hWd (by assumption) F (by assumption) N (by assumption) hoff (by rfl) (by rfl) (by rfl) (hsub _ (by rw [hrest]; exact .tail _ (.tail _ (.head _)))) dC (fun z hz => if_neg hz)
    · clear hWd N9 hoff9 kN kF
      intro u led h tk hWd F N hoff
      have tok : Once := trivial
      k_steps
      refine Halt.out ?_
      refine law_end _ D9 Pi Pd x1 d2 d1 Bw W _ _ _ _ _ _ _ _ lo1 hWd (by assumption) F (by assumption) N (by assumption) hoff (by rfl) (by rfl) (by rfl) ?_
      intro m' all h' tk' F' N'
      k_steps)
end Mine
set_option maxRecDepth 100000 in
set_option maxHeartbeats 8000000 in
theorem PySem.Challenge.cw_qd0109_01_holds : PySem.Challenge.rw_qd0109_01.Holds := by
  exact Mine.law_holds
