import PyProof.Rows.All
import Wide.All
import OpenK.AllK
import Wide.FinOn
import Lean
import PySem.Challenge.RW_qd0128_01
open PySem PySem.W PyProof.Rows
set_option Elab.async false
set_option maxRecDepth 100000
set_option maxHeartbeats 0
set_option linter.unusedVariables false
set_option compiler.extract_closed false
namespace Mine
section
local macro_rules | `(tactic| o_head $_) => `(tactic| contradiction)
theorem kx (h : False) : PySem.Challenge.rw_qd0128_01.row.Holds := by k_head
end
end Mine
open PySem.Spec PySem.Calls
namespace Mine
-- part Base
def Ctr (w : World) (f : Addr) (dd : Nat) (vs : List Value) (news : List (Addr × Obj)) (Post : Value → List (Addr × Obj) → Prop) : Prop :=
  ∀ (q : Program) (loose : List Str) (mean : ExcName → Option Value) (mg mb : Str → Option Value) (dp un : Nat) (gd : Option (List Code)) (cn : Str) (cs : Scope) (a : Addr) (ccd : Value) (cl : List (Str × Addr)) (outer : List Env) (A₀ : Around) (base h₀ : Heap) (L : Addr) (m : Str → Option Value) (s : Shared) (Q E : Value → Shared → Prop),
    Below A₀ base outer h₀ → Fr h₀ L s.heap m → (kx.heap_1 w.params).In h₀ → News h₀ L s.heap news → Top q loose mean mg mb h₀ → cs.kind = .function → dp + dd < recursionLimit → un + 8 * dd < cLine →
    (∀ r news' h' tk', Fr h₀ L h' m → News h₀ L h' news' → Post r news' → Q r { s with heap := h', toks := tk' }) →
    wpAny (model PySem.Challenge.rw_qd0128_01.prog w) (ktrTop dp un gd cn cs L a ccd cl outer) (call (.ref f) vs) Q E s
theorem room1 {dp un : Nat} {gd : Option (List Code)} {cn : Str} {cs : Scope} {L a : Addr} {ccd : Value} {cl : List (Str × Addr)} {outer : List Env} {k n : Nat} (h : dp + n < recursionLimit) (hk : Nat.ble (1 + k) n = true) : (ktrTop dp un gd cn cs L a ccd cl outer).depth + 1 + k < recursionLimit := by
  have := Nat.le_of_ble_eq_true hk
  show dp + 1 + k < recursionLimit
  omega
theorem room0 {dp un : Nat} {gd : Option (List Code)} {cn : Str} {cs : Scope} {L a : Addr} {ccd : Value} {cl : List (Str × Addr)} {outer : List Env} {n : Nat} (h : dp + n < recursionLimit) : (ktrTop dp un gd cn cs L a ccd cl outer).depth < recursionLimit := Nat.lt_of_le_of_lt (Nat.le_add_right dp n) h
theorem units1 {dp un : Nat} {gd : Option (List Code)} {cn : Str} {cs : Scope} {L a : Addr} {ccd : Value} {cl : List (Str × Addr)} {outer : List Env} {k n : Nat} (h : un + 8 * n < cLine) (hk : Nat.ble (k + 1) n = true) : (ktrTop dp un gd cn cs L a ccd cl outer).units + 3 + 8 * k < cLine := by
  have := Nat.le_of_ble_eq_true hk
  show un + 3 + 8 * k < cLine
  omega
theorem unitsE {u un k n : Nat} (h : un + 8 * n < cLine) (e : u = un + k) (hk : Nat.ble k (8 * n) = true) : u < cLine := by
  have := Nat.le_of_ble_eq_true hk
  omega
theorem roomE {d dp n : Nat} (k : Nat) (h : dp + n < recursionLimit) (e : d = dp + k) (hk : Nat.ble k n = true) : d < recursionLimit := by
  have := Nat.le_of_ble_eq_true hk
  omega
theorem foldM {h₀ h : Heap} {L : Addr} {m : Str → Option Value} {P : Prop} (k : let m' := m; Fr h₀ L h m' → P) : Fr h₀ L h m → P := k
-- part Rules
section
variable {w : World} {f : Addr} {dd : Nat} {vs : List Value} {news : List (Addr × Obj)} {Post : Value → List (Addr × Obj) → Prop}
theorem Ctr.use {q : Program} {loose : List Str} {mean : ExcName → Option Value} {mg mb : Str → Option Value} {dp un : Nat} {gd : Option (List Code)} {cn : Str} {cs : Scope} {a : Addr} {ccd : Value} {cl : List (Str × Addr)} {outer : List Env} {A₀ : Around} {base h₀ : Heap} {L : Addr} {m : Str → Option Value} {s : Shared} {Q E : Value → Shared → Prop}
    (C : Ctr w f dd vs news Post) (B : Below A₀ base outer h₀) (F : Fr h₀ L s.heap m) (X : (kx.heap_1 w.params).In h₀) (N : News h₀ L s.heap news) (T : Top q loose mean mg mb h₀) (hk : cs.kind = .function) (hd : dp + dd < recursionLimit) (hu : un + 8 * dd < cLine)
    (ret : ∀ r news' h' tk', Fr h₀ L h' m → News h₀ L h' news' → Post r news' → Q r { s with heap := h', toks := tk' }) :
    wpAny (model PySem.Challenge.rw_qd0128_01.prog w) (ktrTop dp un gd cn cs L a ccd cl outer) (call (.ref f) vs) Q E s :=
  C _ _ _ _ _ _ _ _ _ _ _ _ _ _ _ _ _ _ _ _ _ _ B F X N T hk hd hu ret
theorem Ctr.mono {Post' : Value → List (Addr × Obj) → Prop} (C : Ctr w f dd vs news Post) (h : ∀ r n, Post r n → Post' r n) : Ctr w f dd vs news Post' := by
  intro q loose mean mg mb dp un gd cn cs a ccd cl outer A₀ base h₀ L m s Q E B F X N T hk hd hu ret
  exact C.use B F X N T hk hd hu fun r n' h' tk' F' N' p => ret r n' h' tk' F' N' (h _ _ p)
end
def isIt (o : Obj) : Bool := o.cls == .type "range_iterator" || o.cls == .type "list_iterator"
def Itc (l₀ l : List (Addr × Obj)) : Prop := ∀ p ∈ l, isIt p.2 = true → ∃ q ∈ l₀, q.1 = p.1
theorem Itc.refl {l : List (Addr × Obj)} : Itc l l := fun p hp _ => ⟨p, hp, rfl⟩
theorem Itc.cons {l₀ l : List (Addr × Obj)} {p : Addr × Obj} (h : isIt p.2 = false) (k : Itc l₀ l) : Itc l₀ (p :: l) := fun q hq e => by
  rcases List.mem_cons.mp hq with rfl | hq
  · rw [h] at e; cases e
  · exact k q hq e
theorem Itc.append {l₀ l l' : List (Addr × Obj)} (h : Itc l₀ l) (k : Itc l₀ l') : Itc l₀ (l ++ l') := fun q hq => (List.mem_append.mp hq).elim (h q) (k q)
theorem Itc.sub {l₀ l l' : List (Addr × Obj)} (h : Itc l₀ l) (k : ∀ p ∈ l', p ∈ l) : Itc l₀ l' := fun q hq => h q (k q hq)
def TurnPost (h₀ : Heap) (L : Addr) (l₀ : List (Addr × Obj)) (J : Nat → List (Str × Value) → List (Addr × Obj) → Prop) (i : Nat) (own : List (Addr × Obj)) (s₁ : Shared) (Q : Flow → Shared → Prop) (f : Flow) (s₂ : Shared) : Prop :=
  match f with
  | .ret v => Q (.ret v) s₂
  | .brk => Q .next s₂
  | _ => ∃ h' tk m' ps' nx', s₂ = { s₁ with heap := h', toks := tk } ∧ Fr h₀ L h' m' ∧ News h₀ L h' (own ++ nx') ∧ Itc l₀ nx' ∧ (∀ p ∈ ps', m' p.1 = some p.2) ∧ J i ps' nx'
section
variable {prog : Program} {w : World} {A : Around} {E : Value → Shared → Prop} {s : Shared} {env : Env} {h₀ : Heap} {x : Str} {body : List Stmt} {Q : Flow → Shared → Prop}
theorem fr_k {L : Addr} {h : Heap} {ps : List (Str × Value)} {m₁ : Str → Option Value} {v : Value} (h1 : ∀ p ∈ ps, m₁ p.1 = some p.2) (F : Fr h₀ L h (fun y => if y = x then some v else m₁ y)) :
    Fr h₀ L h (fun y => if y = x then some v else kstB m₁ ps y) := by
  have e : (fun y => if y = x then some v else kstB m₁ ps y) = fun y => if y = x then some v else m₁ y := by
    funext y
    rw [kstB_eq h1 fun _ => rfl]
  rw [e]; exact F
theorem fr_k0 {L : Addr} {h : Heap} {ps : List (Str × Value)} {m₁ : Str → Option Value} (h1 : ∀ p ∈ ps, m₁ p.1 = some p.2) (F : Fr h₀ L h m₁) : Fr h₀ L h (kstB m₁ ps) := by
  have e : kstB m₁ ps = m₁ := by
    funext y
    exact kstB_eq h1 fun _ => rfl
  rw [e]; exact F
theorem loop_core {I : Addr} {fp : List Addr} {n : Nat} {P : Nat → Value → Prop} {St : Nat → Heap → Prop} {m₀ : Str → Option Value} {ps₀ : List (Str × Value)} {news : List (Addr × Obj)} (J : Nat → List (Str × Value) → List (Addr × Obj) → Prop)
    (W : Walks prog w A I fp [I] n P St) (hI : h₀.get? I = none) (hnI : ∀ q ∈ news, q.1 ≠ I) (hL : env.locals ∉ fp) (hst : St 0 s.heap) (hit : ∀ i h, St i h → ∃ o, h.get? I = some o ∧ isIt o = true)
    (F : Fr h₀ env.locals s.heap m₀) (N : News h₀ env.locals s.heap news) (hk : ∀ p ∈ ps₀, m₀ p.1 = some p.2) (hj : J 0 ps₀ news)
    (turn : ∀ i v ps nx u h tk own, i < n → P i v → J i ps nx → Itc news nx → (∀ p ∈ own, p.1 ∈ fp) → (∀ p ∈ nx, p.1 ≠ I) → Fr h₀ env.locals h (fun y => if y = x then some v else kstB u ps y) → News h₀ env.locals h (own ++ nx) →
      wpAny (model prog w) A (execs body env) (TurnPost h₀ env.locals news J (i + 1) own { s with heap := h, toks := tk } Q) E { s with heap := h, toks := tk })
    (done : ∀ ps nx u h tk, J n ps nx → Itc news nx → Fr h₀ env.locals h (kstB u ps) → News h₀ env.locals h nx → Q .next { s with heap := h, toks := tk }) :
    LoopAtV prog w A h₀ env x body Q E (.ref I) s := by
  let J' : Nat → (Str → Option Value) → List (Addr × Obj) → Prop := fun i m₁ nx => Itc news nx ∧ ∃ ps, (∀ p ∈ ps, m₁ p.1 = some p.2) ∧ J i ps nx
  obtain ⟨oI, hoI, hiI⟩ := hit 0 _ hst
  have off : ∀ {h : Heap} {o : Obj} {nx : List (Addr × Obj)}, h.get? I = some o → isIt o = true → News h₀ env.locals h nx → Itc news nx → ∀ p ∈ nx, p.1 ∉ [I] := by
    intro h o nx ho hi N' hc' p hp hm
    have hpI := List.mem_singleton.mp hm
    have e := (N' p hp).1
    rw [hpI, ho] at e
    obtain ⟨q, hq, eq⟩ := hc' p hp (by rw [← Option.some.inj e]; exact hi)
    exact hnI q hq (eq.trans hpI)
  refine ⟨I, fp, [I], n, P, St, m₀, news, J', rfl, W, hL, ?_, off hoI hiI N Itc.refl, hst, F, N, ⟨Itc.refl, ps₀, hk, hj⟩, ?_, ?_⟩
  · intro b hb
    rw [List.mem_singleton.mp hb]; exact hI
  · rintro i v m₁ nx s₁ own ⟨h', tk', rfl⟩ hin hP ⟨hc', ps, hk', hJ⟩ hoff hown hown2 hall hst' F₁ N₁
    obtain ⟨o', ho', hi'⟩ := hit _ _ hst'
    have hmem : (I, o') ∈ own := hall I (W.sub I (List.mem_singleton.mpr rfl)) hI o' ho'
    refine wpAny_mono (turn i v ps nx m₁ h' tk' own hin hP hJ hc' hown (fun p hp e => hoff p hp (List.mem_singleton.mpr e)) (fr_k hk' F₁) N₁) (fun f s₂ p => ?_) fun _ _ e => e
    have fin : (∃ h'' tk m' ps' nx', s₂ = { ({ s with heap := h', toks := tk' } : Shared) with heap := h'', toks := tk } ∧ Fr h₀ env.locals h'' m' ∧ News h₀ env.locals h'' (own ++ nx') ∧ Itc news nx' ∧ (∀ p ∈ ps', m' p.1 = some p.2) ∧ J (i + 1) ps' nx') →
        LoopStepU h₀ env.locals [I] own (J' (i + 1)) { s with heap := h', toks := tk' } .next s₂ := by
      rintro ⟨h'', tk, m', ps', nx', e, F', N', hc'', hk'', hJ'⟩
      refine ⟨rfl, h'', tk, m', nx', e, F', N', ?_, hc'', ps', hk'', hJ'⟩
      exact off ((N' _ (List.mem_append_left _ hmem)).1) hi' (fun p hp => N' p (List.mem_append_right _ hp)) hc''
    cases f with
    | ret v => exact p
    | brk => exact p
    | next => exact fin p
    | cont => exact fin p
  · rintro h' tk m' nx F' N' _ ⟨hc', ps, hk', hJ⟩
    exact done ps nx m' h' tk hJ hc' (fr_k0 hk' F') N'
theorem range_rule {r : Addr} {a₀ b₀ : Int} {t₀ u₀ v₀ : Tok} {n : Nat} {m₀ : Str → Option Value} {ps₀ : List (Str × Value)} {news : List (Addr × Obj)} (J : Nat → List (Str × Value) → List (Addr × Obj) → Prop)
    (hh : A.handled = none) (hr : IsRange s.heap r a₀ b₀ 1 t₀ u₀ v₀) (hsmall : Builtin.Range.small a₀ b₀ 1 = true) (hn : Builtin.Range.rangeSize a₀ b₀ 1 = (n : Int))
    (F : Fr h₀ env.locals s.heap m₀) (N : News h₀ env.locals s.heap news) (hk : ∀ p ∈ ps₀, m₀ p.1 = some p.2) (hj : J 0 ps₀ news)
    (turn : ∀ i t ps nx u h tk own, i < n → J i ps nx → Itc news nx → (∀ p ∈ own, ∀ q ∈ nx, p.1 ≠ q.1) → Fr h₀ env.locals h (fun y => if y = x then some (.int (a₀ + (i : Nat)) t) else kstB u ps y) → News h₀ env.locals h (own ++ nx) →
      wpAny (model prog w) A (execs body env) (TurnPost h₀ env.locals news J (i + 1) own { s with heap := h, toks := tk } Q) E { s with heap := h, toks := tk })
    (done : ∀ ps nx u h tk, J n ps nx → Itc news nx → Fr h₀ env.locals h (kstB u ps) → News h₀ env.locals h nx → Q .next { s with heap := h, toks := tk }) :
    wpAny (model prog w) A (pyIter (.ref r)) (fun it s₂ => LoopAtV prog w A h₀ env x body Q E it s₂) E s := by
  refine wpAny_pyIter_range hr hsmall ?_
  have W := Walks.range (prog := prog) (w := w) hh s.heap.objs.size a₀ 1 n
  have hI := next_is_new F
  have hLlt : env.locals < s.heap.objs.size := F.ns.lt
  refine loop_core (m₀ := m₀) (ps₀ := ps₀) (news := news) J W hI (fun q hq e => absurd (Heap.lt_size (N q hq).1) (e ▸ Nat.lt_irrefl _)) (fun hm => absurd hLlt ((List.mem_singleton.mp hm) ▸ Nat.lt_irrefl _)) (by show IsRangeIter _ _ _ _ _; rw [hn]; simpa using Heap.get?_push_size _ rfl) (fun i h st => ⟨_, st, rfl⟩) (F.push _)
    (fun p hp => ⟨Heap.get?_push_of_some _ (N p hp).1, (N p hp).2⟩) hk hj ?_ ?_
  · rintro i v ps nx u h tk own hi ⟨t, rfl⟩ hJ hc' hown hne F₁ N₁
    have e1 : a₀ + (i : Int) * 1 = a₀ + (i : Int) := by omega
    rw [e1] at F₁
    exact turn i t ps nx u h tk own hi hJ hc' (fun p hp q hq e => hne q hq (e ▸ List.mem_singleton.mp (hown p hp))) F₁ N₁
  · exact done
theorem list_rule {l : Addr} {vs : List Value} {m₀ : Str → Option Value} {ps₀ : List (Str × Value)} {news : List (Addr × Obj)} (J : Nat → List (Str × Value) → List (Addr × Obj) → Prop)
    (hh : A.handled = none) (hl : s.heap.IsList l vs.toArray) (hll : l ≠ env.locals)
    (F : Fr h₀ env.locals s.heap m₀) (N : News h₀ env.locals s.heap news) (hk : ∀ p ∈ ps₀, m₀ p.1 = some p.2) (hj : J 0 ps₀ news)
    (turn : ∀ i v ps nx u h tk own, vs[i]? = some v → J i ps nx → Itc news nx → (∀ p ∈ own, ∀ q ∈ nx, q.1 ≠ l → p.1 ≠ q.1) → Fr h₀ env.locals h (fun y => if y = x then some v else kstB u ps y) → News h₀ env.locals h (own ++ nx) →
      wpAny (model prog w) A (execs body env) (TurnPost h₀ env.locals news J (i + 1) own { s with heap := h, toks := tk } Q) E { s with heap := h, toks := tk })
    (done : ∀ ps nx u h tk, J vs.length ps nx → Itc news nx → Fr h₀ env.locals h (kstB u ps) → News h₀ env.locals h nx → Q .next { s with heap := h, toks := tk }) :
    wpAny (model prog w) A (pyIter (.ref l)) (fun it s₂ => LoopAtV prog w A h₀ env x body Q E it s₂) E s := by
  obtain ⟨ol, hol, _⟩ := id hl
  have hlt : l < s.heap.objs.size := Heap.lt_size hol
  have hne : l ≠ s.heap.objs.size := Nat.ne_of_lt hlt
  refine wpAny_pyIter_list hl ?_
  have W := Walks.list (prog := prog) (w := w) hh s.heap.objs.size l hne vs.toArray
  have hLlt : env.locals < s.heap.objs.size := F.ns.lt
  rw [show vs.toArray.size = vs.length by simp] at W
  refine loop_core (m₀ := m₀) (ps₀ := ps₀) (news := news) J W (next_is_new F) (fun q hq e => absurd (Heap.lt_size (N q hq).1) (e ▸ Nat.lt_irrefl _)) ?_ ⟨⟨_, Heap.get?_push_size _ rfl, rfl, rfl⟩, hl.at fun o e => Heap.get?_push_of_some _ e⟩ (fun i h st => ?_) (F.push _)
    (fun p hp => ⟨Heap.get?_push_of_some _ (N p hp).1, (N p hp).2⟩) hk hj ?_ ?_
  · intro hm
    rcases List.mem_cons.mp hm with e | hm
    · exact absurd hLlt (e ▸ Nat.lt_irrefl _)
    · exact hll (List.mem_singleton.mp hm).symm
  · obtain ⟨⟨o, ho, hcl, _⟩, _⟩ := st
    exact ⟨o, ho, by unfold isIt; rw [hcl]; rfl⟩
  · rintro i v ps nx u h tk own hi hP hJ hc' hown hne' F₁ N₁
    refine turn i v ps nx u h tk own (by simpa using hP) hJ hc' (fun p hp q hq hql e => ?_) F₁ N₁
    rcases List.mem_cons.mp (hown p hp) with h1 | h1
    · exact hne' q hq (e ▸ h1)
    · exact hql (e ▸ List.mem_singleton.mp h1)
  · exact done
end
theorem fr_fold {h₀ h : Heap} {L : Addr} {m : Str → Option Value} (ps : List (Str × Value)) (F : Fr h₀ L h m) (h1 : ∀ p ∈ ps, m p.1 = some p.2) : ∃ u, Fr h₀ L h (kstB u ps) := ⟨m, fr_k0 h1 F⟩
section
variable {α : Type} {a : α} {s t d e : List α}
theorem sub_refl (l : List α) : ∀ p ∈ l, p ∈ l := fun _ h => h
theorem sub_tail (h : ∀ p ∈ s, p ∈ d) : ∀ p ∈ s, p ∈ a :: d := fun p hp => List.mem_cons_of_mem _ (h p hp)
theorem sub_right (h : ∀ p ∈ s, p ∈ d) : ∀ p ∈ s, p ∈ e ++ d := fun p hp => List.mem_append_right _ (h p hp)
theorem sub_left (h : ∀ p ∈ s, p ∈ e) : ∀ p ∈ s, p ∈ e ++ d := fun p hp => List.mem_append_left _ (h p hp)
theorem sub_cons (h : a ∈ d) (k : ∀ p ∈ s, p ∈ d) : ∀ p ∈ a :: s, p ∈ d := List.forall_mem_cons.mpr ⟨h, k⟩
theorem sub_app (h : ∀ p ∈ s, p ∈ d) (k : ∀ p ∈ t, p ∈ d) : ∀ p ∈ s ++ t, p ∈ d := fun p hp => (List.mem_append.mp hp).elim (h p) (k p)
end
def Sub (s d : List (Addr × Obj)) : Prop := ∀ p ∈ s, p ∈ d
section
variable {a : Addr × Obj} {s t d e : List (Addr × Obj)}
theorem Sub.to (h : Sub s d) : ∀ p ∈ s, p ∈ d := h
theorem Sub.refl : Sub s s := fun _ h => h
theorem Sub.nil : Sub [] d := fun _ h => nomatch h
theorem Sub.tail (h : Sub s d) : Sub s (a :: d) := sub_tail h
theorem Sub.right (h : Sub s d) : Sub s (e ++ d) := sub_right h
theorem Sub.left (h : Sub s e) : Sub s (e ++ d) := sub_left h
theorem Sub.cons (h : a ∈ d) (k : Sub s d) : Sub (a :: s) d := sub_cons h k
theorem Sub.app (h : Sub s d) (k : Sub t d) : Sub (s ++ t) d := sub_app h k
end
def NeAll (D : Addr) (l : List (Addr × Obj)) : Prop := ∀ p ∈ l, p.1 ≠ D
section
variable {a : Addr × Obj} {D : Addr} {l r : List (Addr × Obj)}
theorem NeAll.to (h : NeAll D l) : ∀ p ∈ l, p.1 ≠ D := h
theorem NeAll.of (h : ∀ p ∈ l, p.1 ≠ D) : NeAll D l := h
theorem NeAll.ofLt {D : Addr} : ∀ {l : List (Addr × Obj)}, AllLt D l → NeAll D l
  | [], _ => fun _ h => nomatch h
  | _ :: _, h => List.forall_mem_cons.mpr ⟨Nat.ne_of_lt h.1, NeAll.ofLt h.2⟩
theorem NeAll.nil : NeAll D [] := fun _ h => nomatch h
theorem NeAll.cons (x : a.1 ≠ D) (y : NeAll D l) : NeAll D (a :: l) := List.forall_mem_cons.mpr ⟨x, y⟩
theorem NeAll.app (x : NeAll D l) (y : NeAll D r) : NeAll D (l ++ r) := fun p hp => (List.mem_append.mp hp).elim (x p) (y p)
end
def Held (P : Prop) : Prop := P
theorem held {P : Prop} (h : Held P) : P := h
theorem TurnPost.next {h₀ : Heap} {L : Addr} {l₀ : List (Addr × Obj)} {J : Nat → List (Str × Value) → List (Addr × Obj) → Prop} {i : Nat} {own news' nx' : List (Addr × Obj)} {s₁ : Shared} {Q : Flow → Shared → Prop} {h' : Heap} {tk : Nat} {m' : Str → Option Value} {ps' : List (Str × Value)}
    (F : Fr h₀ L h' m') (N : News h₀ L h' news') (hn : ∀ p ∈ own ++ nx', p ∈ news') (hc : Itc l₀ nx') (hk : ∀ p ∈ ps', m' p.1 = some p.2) (hj : J i ps' nx') : TurnPost h₀ L l₀ J i own s₁ Q .next { s₁ with heap := h', toks := tk } :=
  ⟨h', tk, m', ps', nx', rfl, F, fun p hp => N p (hn p hp), hc, hk, hj⟩
theorem TurnPost.cont {h₀ : Heap} {L : Addr} {l₀ : List (Addr × Obj)} {J : Nat → List (Str × Value) → List (Addr × Obj) → Prop} {i : Nat} {own news' nx' : List (Addr × Obj)} {s₁ : Shared} {Q : Flow → Shared → Prop} {h' : Heap} {tk : Nat} {m' : Str → Option Value} {ps' : List (Str × Value)}
    (F : Fr h₀ L h' m') (N : News h₀ L h' news') (hn : ∀ p ∈ own ++ nx', p ∈ news') (hc : Itc l₀ nx') (hk : ∀ p ∈ ps', m' p.1 = some p.2) (hj : J i ps' nx') : TurnPost h₀ L l₀ J i own s₁ Q .cont { s₁ with heap := h', toks := tk } :=
  ⟨h', tk, m', ps', nx', rfl, F, fun p hp => N p (hn p hp), hc, hk, hj⟩
def PullAt (D : Addr) (o : Obj) (l r : List (Addr × Obj)) : Prop := (D, o) ∈ l ∧ ∀ p ∈ r, p ∈ l
section
variable {D : Addr} {o : Obj} {x : Addr × Obj} {a l r : List (Addr × Obj)}
theorem PullAt.head : PullAt D o ((D, o) :: l) l := ⟨List.Mem.head _, fun _ h => List.Mem.tail _ h⟩
theorem PullAt.cons (h : PullAt D o l r) : PullAt D o (x :: l) (x :: r) := ⟨List.Mem.tail _ h.1, fun _ hp => (List.mem_cons.mp hp).elim (fun e => e ▸ List.Mem.head _) fun hp => List.Mem.tail _ (h.2 _ hp)⟩
theorem PullAt.app (h : PullAt D o l r) : PullAt D o (a ++ l) (a ++ r) := ⟨List.mem_append_right _ h.1, fun _ hp => (List.mem_append.mp hp).elim (fun hp => List.mem_append_left _ hp) fun hp => List.mem_append_right _ (h.2 _ hp)⟩
theorem PullAt.news {h₀ h : Heap} {L : Addr} (D : Addr) {o : Obj} (N : News h₀ L h l) (P : PullAt D o l r) : News h₀ L h ((D, o) :: r) := fun p hp => N p ((List.mem_cons.mp hp).elim (fun e => e ▸ P.1) (P.2 p))
end
theorem UpdF.app {d : Addr} {o : Obj} {l : List (Addr × Obj)} {g : Obj → List (Addr × Obj)} : ∀ {a : List (Addr × Obj)}, (∀ p ∈ a, p.1 ≠ d) → UpdF d o l g → UpdF d o (a ++ l) fun o' => a ++ g o'
  | [], _, U => U
  | x :: a, h, U => .tail (h x (List.Mem.head _)) (UpdF.app (a := a) (fun p hp => h p (List.Mem.tail _ hp)) U)
theorem any_toks1 {α : Type} {M : Model} {A : Around} {p : Sem α} {Q : α → Shared → Prop} {E : Value → Shared → Prop} {h : Heap} {g d X o} (k : ∀ tk, wpAny M A p Q E ⟨h, g, d, tk, o⟩) : wpAny M A p Q E ⟨h, g, d, X + 1, o⟩ := k _
-- part Data
abbrev tupO (vs : List Value) (n : Nat) : Obj := { cls := .type "tuple", data := .seq vs.toArray n }
structure Knd (w : World) (news : List (Addr × Obj)) (v t : Value) : Prop where
  z : ∀ {h₀ h : Heap} {L : Addr}, News h₀ L h news → ∃ H, KitX (kx.heap_1 w.params) v t H ∧ H h
  nb : v ≠ .builtin "__main__.__loader__#opaque"
theorem Knd.sub {w : World} {news news' : List (Addr × Obj)} {v t : Value} (k : Knd w news v t) (hs : ∀ p ∈ news, p ∈ news') : Knd w news' v t := ⟨fun N => k.z (fun p hp => N p (hs p hp)), k.nb⟩
theorem Knd.none {w : World} {news : List (Addr × Obj)} : Knd w news .none (.type "NoneType") := ⟨fun _ => ⟨_, kitx_none, trivial⟩, fun e => nomatch e⟩
theorem Knd.dict {w : World} {news : List (Addr × Obj)} {a : Addr} {o : Obj} (h : (a, o) ∈ news) (hc : o.cls = .type "dict") : Knd w news (.ref a) (.type "dict") := ⟨fun N => ⟨_, kitx_dict, ⟨o, (N _ h).1, hc⟩⟩, fun e => nomatch e⟩
theorem Knd.list {w : World} {news : List (Addr × Obj)} {a : Addr} {o : Obj} (h : (a, o) ∈ news) (hc : o.cls = .type "list") : Knd w news (.ref a) (.type "list") := ⟨fun N => ⟨_, kitx_list, ⟨o, (N _ h).1, hc⟩⟩, fun e => nomatch e⟩
theorem Knd.isi {w : World} {news : List (Addr × Obj)} {v t c : Value} {b : Bool} {A : Around} {E : Value → Shared → Prop} {Q : Value → Shared → Prop} {s : Shared} {h₀ : Heap} {L : Addr} (k : Knd w news v t) (N : News h₀ L s.heap news)
    (X : (kx.heap_1 w.params).In s.heap) (e : kitOne (kx.heap_1 w.params) t c = some b) (h : ∀ tk, Q (.bool b) { s with toks := tk }) : wpAny (model PySem.Challenge.rw_qd0128_01.prog w) A (call (.builtin "isinstance") [v, c]) Q E s := by
  obtain ⟨H, Z, p⟩ := k.z N
  exact kia_one Z X p e k.nb h
inductive RefAt (news : List (Addr × Obj)) (v : Value) (k : Int) : Prop
  | mk (x dx h1 k1 t1 h2 k2 t2 c : _) (e0 : v = .ref x) (e1 : (x, instObj 261 dx) ∈ news) (e2 : (dx, dictOf [⟨h1, .str (Str.ofString "number") k1, .int k t1⟩, ⟨h2, .str (Str.ofString "generation") k2, .int 0 t2⟩] c) ∈ news)
inductive Cell (news : List (Addr × Obj)) (v r : Value) : Prop
  | mk (tp t n : _) (e0 : v = .ref tp) (e1 : (tp, tupO [.int 0 t, r] n) ∈ news)
inductive Res (news : List (Addr × Obj)) (kvs : List (Int × Value)) : Nat → Value → Value → Prop
  | here (v : Value) : Res news kvs 0 v v
  | hop {n : Nat} {v c v' r : Value} {k : Int} : RefAt news v k → valueAt kvs k = some c → Cell news c v' → Res news kvs n v' r → Res news kvs (n + 1) v r
theorem Res.inv {news : List (Addr × Obj)} {kvs : List (Int × Value)} {n : Nat} {v r : Value} (h : Res news kvs n v r) : (n = 0 ∧ v = r) ∨ ∃ n' k c v', n = n' + 1 ∧ RefAt news v k ∧ valueAt kvs k = some c ∧ Cell news c v' ∧ Res news kvs n' v' r := by
  cases h with
  | here => exact .inl ⟨rfl, rfl⟩
  | hop a b c d => exact .inr ⟨_, _, _, _, rfl, a, b, c, d⟩
inductive ShelfAt (w : World) (news : List (Addr × Obj)) (sh tr : Addr) (kvs : List (Int × Value)) : Prop
  | mk (dsh T h1 k1 h2 k2 c oT : _) (e0 : (sh, instObj 377 dsh) ∈ news) (e1 : (dsh, dictOf [⟨h1, .str (Str.ofString "table") k1, .ref T⟩, ⟨h2, .str (Str.ofString "trailer") k2, .ref tr⟩] c) ∈ news) (e2 : (T, oT) ∈ news) (e3 : oT.IsDictOf (PySem.intKind PySem.Challenge.rw_qd0128_01.prog w) kvs) (e4 : (T == sysModules) = false)
abbrev PR := PySem.Challenge.rw_qd0128_01.prog
def StrDict (w : World) (news : List (Addr × Obj)) (v : Value) (kvs : List (Str × Value)) : Prop := ∃ d o, v = .ref d ∧ (d, o) ∈ news ∧ o.IsDictOf (PySem.strKind PySem.Challenge.rw_qd0128_01.prog w) kvs ∧ (d == sysModules) = false
inductive NameAt (news : List (Addr × Obj)) (v : Value) (x : Str) : Prop
  | mk (a da h1 k1 t1 c : _) (e0 : v = .ref a) (e1 : (a, instObj 190 da) ∈ news) (e2 : (da, dictOf [⟨h1, .str (Str.ofString "text") k1, .str x t1⟩] c) ∈ news)
inductive StringAt (news : List (Addr × Obj)) (v : Value) (x : Array UInt8) : Prop
  | mk (a da h1 k1 t1 h2 k2 c : _) (e0 : v = .ref a) (e1 : (a, instObj 212 da) ∈ news) (e2 : (da, dictOf [⟨h1, .str (Str.ofString "octets") k1, .bytes x t1⟩, ⟨h2, .str (Str.ofString "is_hex") k2, .bool false⟩] c) ∈ news)
section
variable {w : World} {l l' : List (Addr × Obj)} (hs : ∀ p ∈ l, p ∈ l')
include hs
theorem RefAt.sub {v : Value} {k : Int} : RefAt l v k → RefAt l' v k := fun ⟨a, b, c, d, e, f, g, h, i, j, m, n⟩ => ⟨a, b, c, d, e, f, g, h, i, j, hs _ m, hs _ n⟩
theorem Cell.sub {v r : Value} : Cell l v r → Cell l' v r := fun ⟨a, b, c, d, m⟩ => ⟨a, b, c, d, hs _ m⟩
theorem Res.sub {kvs : List (Int × Value)} {n : Nat} {v r : Value} (h : Res l kvs n v r) : Res l' kvs n v r := by
  induction h with
  | here => exact .here _
  | hop a b c _ ih => exact .hop (a.sub hs) b (c.sub hs) ih
theorem ShelfAt.sub {sh tr : Addr} {kvs : List (Int × Value)} : ShelfAt w l sh tr kvs → ShelfAt w l' sh tr kvs := fun ⟨a, b, c, d, e, f, g, h, m, n, o, p, q⟩ => ⟨a, b, c, d, e, f, g, h, hs _ m, hs _ n, hs _ o, p, q⟩
theorem StrDict.sub {v : Value} {kvs : List (Str × Value)} : StrDict w l v kvs → StrDict w l' v kvs := fun ⟨a, b, c, d, e⟩ => ⟨a, b, c, hs _ d, e⟩
theorem NameAt.sub {v : Value} {x : Str} : NameAt l v x → NameAt l' v x := fun ⟨a, b, c, d, e, f, g, h, i⟩ => ⟨a, b, c, d, e, f, g, hs _ h, hs _ i⟩
theorem StringAt.sub {v : Value} {x : Array UInt8} : StringAt l v x → StringAt l' v x := fun ⟨a, b, c, d, e, f, g, h, i, j, k⟩ => ⟨a, b, c, d, e, f, g, h, i, hs _ j, hs _ k⟩
end
theorem StrDict.knd {w : World} {l : List (Addr × Obj)} {v : Value} {kvs : List (Str × Value)} (h : StrDict w l v kvs) : Knd w l v (.type "dict") := by
  obtain ⟨d, o, rfl, m, hd, _⟩ := h
  refine Knd.dict m ?_
  obtain ⟨es, ep, h1, _⟩ := hd
  exact h1.1
theorem NameAt.knd {w : World} {l : List (Addr × Obj)} {v : Value} {x : Str} (h : NameAt l v x) : Knd w l v (.ref 190) := by
  have : PySem.Challenge.rw_qd0128_01.foot = PySem.Challenge.rw_qd0128_01.foot := rfl
  obtain ⟨a, da, h1, k1, t1, c, rfl, m1, m2⟩ := h
  refine ⟨fun N => ⟨_, kitx_own ?k4 ?k5 ?k6 ?k7 ?k8 ?k9, ⟨(N _ m1).1, rfl, rfl, (N _ m2).1⟩⟩, fun e => nomatch e⟩
  all_goals (revert this; k_fill; intro this; k_is)
theorem StringAt.knd {w : World} {l : List (Addr × Obj)} {v : Value} {x : Array UInt8} (h : StringAt l v x) : Knd w l v (.ref 212) := by
  have : PySem.Challenge.rw_qd0128_01.foot = PySem.Challenge.rw_qd0128_01.foot := rfl
  obtain ⟨a, da, h1, k1, t1, h2, k2, c, rfl, m1, m2⟩ := h
  refine ⟨fun N => ⟨_, kitx_own ?k4 ?k5 ?k6 ?k7 ?k8 ?k9, ⟨(N _ m1).1, rfl, rfl, (N _ m2).1⟩⟩, fun e => nomatch e⟩
  all_goals (revert this; k_fill; intro this; k_is)
theorem RefAt.knd {w : World} {l : List (Addr × Obj)} {v : Value} {k : Int} (h : RefAt l v k) : Knd w l v (.ref 261) := by
  have : PySem.Challenge.rw_qd0128_01.foot = PySem.Challenge.rw_qd0128_01.foot := rfl
  obtain ⟨a, da, h1, k1, t1, h2, k2, t2, c, rfl, m1, m2⟩ := h
  refine ⟨fun N => ⟨_, kitx_own ?k4 ?k5 ?k6 ?k7 ?k8 ?k9, ⟨(N _ m1).1, rfl, rfl, (N _ m2).1⟩⟩, fun e => nomatch e⟩
  all_goals (revert this; k_fill; intro this; k_is)
def NoRef (w : World) (t : Value) : Prop := kitOne (kx.heap_1 w.params) t (.ref 261) = some false
theorem noRef_all (w : World) : (NoRef w (.type "dict") ∧ NoRef w (.type "list") ∧ NoRef w (.type "NoneType") ∧ NoRef w (.ref 190) ∧ NoRef w (.ref 212)) ∧ PySem.Challenge.rw_qd0128_01.prog = PySem.Challenge.rw_qd0128_01.prog := by
  unfold NoRef
  k_fill
  exact ⟨⟨by kit_is, by kit_is, by kit_is, by kit_is, by kit_is⟩, rfl⟩
theorem noRef_dict (w : World) : NoRef w (.type "dict") := (noRef_all w).1.1
theorem noRef_list (w : World) : NoRef w (.type "list") := (noRef_all w).1.2.1
theorem noRef_none (w : World) : NoRef w (.type "NoneType") := (noRef_all w).1.2.2.1
theorem noRef_name (w : World) : NoRef w (.ref 190) := (noRef_all w).1.2.2.2.1
theorem noRef_string (w : World) : NoRef w (.ref 212) := (noRef_all w).1.2.2.2.2
-- part Rules2
section
variable {prog : Program} {w : World} {A : Around} {E : Value → Shared → Prop} {s : Shared} {h₀ h h' : Heap} {L D : Addr} {m : Str → Option Value} {full keep : List (Addr × Obj)} {o o' : Obj}
theorem News.upd (N : News h₀ L h full) (hm : (D, o) ∈ full) (hk : ∀ p ∈ keep, p ∈ full) (hne : ∀ p ∈ keep, p.1 ≠ D) (hs : Heap.SameBut D h h') (ho' : h'.get? D = some o') : News h₀ L h' ((D, o') :: keep) := by
  intro p hp
  rcases List.mem_cons.mp hp with rfl | hp
  · exact ⟨ho', (N _ hm).2⟩
  · exact ⟨(hs.2 _ (hne p hp)).trans (N p (hk p hp)).1, (N p (hk p hp)).2⟩
theorem append_L {xs : List Value} {n : Nat} {x : Value} {Q : Value → Shared → Prop} (keep : List (Addr × Obj)) (F : Fr h₀ L s.heap m) (N : News h₀ L s.heap full) (hm : (D, listOf xs.toArray n) ∈ full) (hk : ∀ p ∈ keep, p ∈ full) (hne : ∀ p ∈ keep, p.1 ≠ D)
    (hsz : xs.length ≤ 1000) (h : ∀ h', Fr h₀ L h' m → News h₀ L h' ((D, listOf (xs ++ [x]).toArray (n + 1)) :: keep) → Q .none { s with heap := h' }) : wpAny (model prog w) A (call (.builtin "list.append") [.ref D, x]) Q E s := by
  have z := N _ hm
  refine append_at (hsz := by rw [sizeLine_eq]; simp; omega) z.1 fun h' hs ho' => ?_
  refine h h' (F.change hs z.2.1 z.2.2) (News.upd N hm hk hne hs ?_)
  rw [ho']; simp
theorem set_L {K : Type} [DecidableEq K] {knd : KeyKind prog w K} {kvs : List (K × Value)} {k : K} {key v : Value} {Q : Unit → Shared → Prop} (keep : List (Addr × Obj)) (F : Fr h₀ L s.heap m) (N : News h₀ L s.heap full) (hm : (D, o) ∈ full) (hk : ∀ p ∈ keep, p ∈ full) (hne : ∀ p ∈ keep, p.1 ≠ D)
    (hd : o.IsDictOf knd kvs) (hkey : knd.is k key = true) (hsz : kvs.length ≤ 1000)
    (h : ∀ h' o', Fr h₀ L h' m → News h₀ L h' ((D, o') :: keep) → o'.IsDictOf knd (stored kvs k v) → Q () { s with heap := h', toks := s.toks + 1 }) : wpAny (model prog w) A (setItem (.ref D) key v) Q E s := by
  have z := N _ hm
  refine wpAny_setItem_pairs (hsz := by rw [sizeLine_eq]; omega) hkey (Heap.dictOf_iff.mpr ⟨o, z.1, hd⟩) fun h' hmm hs => ?_
  obtain ⟨o', ho', hd'⟩ := Heap.dictOf_iff.mp hmm
  exact h h' o' (F.change hs z.2.1 z.2.2) (News.upd N hm hk hne hs ho') hd'
theorem notin_L {l : Addr} {xs : List Value} {n : Nat} {ns : List Int} {k : Int} {t : Tok} {b : Bool} {Q : Value → Shared → Prop} (N : News h₀ L s.heap full) (hm : (l, listOf xs.toArray n) ∈ full) (hi : IntsAre xs ns) (hb : (!(ns.any (· == k))) = b) (h : Q (.bool b) s) :
    wpAny (model prog w) A (compareOp .NotIn (.int k t) (.ref l)) Q E s := notin_list_ints (News.isList N hm) hi (by rw [hb]; exact h)
end
def upTo (n : Nat) : List Int := (List.range n).map fun (i : Nat) => (i : Int) + 1
theorem upTo_succ (n : Nat) : upTo (n + 1) = upTo n ++ [(n : Int) + 1] := by unfold upTo; rw [List.range_succ]; simp
theorem upTo_length (n : Nat) : (upTo n).length = n := by simp [upTo]
theorem upTo_off (n : Nat) : (!((upTo n).any (· == (n : Int) + 1))) = true := by
  simp only [Bool.not_eq_true', List.any_eq_false, upTo, List.mem_map, List.mem_range]
  rintro x ⟨i, hi, rfl⟩
  simp; omega
def GOk (w : World) (news : List (Addr × Obj)) (kvs : List (Int × Value)) (v : Value) (k : Int) (hv : Value) (kvh : List (Str × Value)) : Prop :=
  RefAt news v k ∧ (∃ n, Res news kvs n v hv ∧ n < 30) ∧ StrDict w news hv kvh ∧ ∃ tv, valueAt kvh (Str.ofString "Type") = some tv ∧ NameAt news tv (Str.ofString "OCG")
theorem GOk.sub {w : World} {l l' : List (Addr × Obj)} (hs : ∀ p ∈ l, p ∈ l') {kvs : List (Int × Value)} {v hv : Value} {k : Int} {kvh : List (Str × Value)} : GOk w l kvs v k hv kvh → GOk w l' kvs v k hv kvh :=
  fun ⟨a, ⟨n, b, c⟩, d, tv, e, f⟩ => ⟨a.sub hs, ⟨n, b.sub hs, c⟩, d.sub hs, tv, e, f.sub hs⟩
theorem IntsAre.snoc {xs : List Value} {ns : List Int} (h : IntsAre xs ns) (k : Int) (t : Tok) : IntsAre (xs ++ [.int k t]) (ns ++ [k]) := IntsAre.append h (.cons k t .nil)
-- part Rules3
section
variable {prog : Program} {w : World} {A : Around} {E : Value → Shared → Prop} {s₁ : Shared} {h₀ : Heap} {L : Addr} {m : Str → Option Value} {env : Env} {ct elt : Expr} {x : Str} {scope : Scope} {cl : List (Str × Addr)}
theorem compU_list {Fin : Shared → List Value → List (Addr × Obj) → Prop} {ax : Addr} {xs : List Value} {k : Nat} {news : List (Addr × Obj)} (J : Nat → List Value → List (Addr × Obj) → Prop)
    (hh : A.handled = none) (F : Fr h₀ L s₁.heap m) (N : News h₀ L s₁.heap news) (hm : (ax, listOf xs.toArray k) ∈ news) (hsz : xs.length ≤ 1000) (h0 : J 0 [] news)
    (turn : ∀ i v ys nx I oI C oC D m₂ h tk (E' : Value → Shared → Prop), xs[i]? = some v → J i ys nx → LCg.SrcAt h₀ ax xs.toArray nx → LCg.NsObj oC m₂ → m₂ x = some v → Fr h₀ L h m → News h₀ L h ((I, oI) :: (C, oC) :: (D, LCg.lst ys) :: nx) → LCg.Off3 I C D nx → ((@Ne Nat I C) ∧ (@Ne Nat I D) ∧ (@Ne Nat C D)) →
      wpAny (model prog w) A (eval elt (compEnvC scope cl C env)) (LCg.CompEnd h₀ L m { s₁ with heap := h, toks := tk } I oI C oC D (LCg.lst ys) (LCg.SrcAt h₀ ax xs.toArray) (fun y nx' => J (i + 1) (ys ++ [y]) nx')) E' { s₁ with heap := h, toks := tk })
    (fin : ∀ g ys nx, J xs.length ys nx → Fin { s₁ with heap := g } ys nx) : LCg.CompSrc prog w A h₀ L m env elt x scope cl Fin (.ref ax) s₁ := by
  refine LCg.CompSrc.ledger hh F N hm (by rw [sizeLine_eq, List.size_toArray]; omega) fun g => ?_
  rw [List.size_toArray]
  have all : ∀ j i ys nx, i + j = xs.length → J i ys nx → LCg.SrcAt h₀ ax xs.toArray nx → LCg.CompRest prog w A h₀ L m env elt x scope cl { s₁ with heap := g } (LCg.SrcAt h₀ ax xs.toArray) (fun i v => xs.toArray[i]? = some v) (Fin { s₁ with heap := g }) j i ys nx := by
    intro j
    induction j with
    | zero =>
      intro i ys nx hi hJ _
      obtain rfl : i = xs.length := by omega
      exact fin g ys nx hJ
    | succ j ih =>
      intro i ys nx hi hJ hS v I oI C oC D m₂ h tk E' hv hC hx F' N' o3 n3
      refine wpAny_mono (turn i v ys nx I oI C oC D m₂ h tk E' (by simpa using hv) hJ hS hC hx F' N' o3 n3) (fun y s' q => ?_) fun _ _ e => e
      obtain ⟨h', tk', nx', e, F'', N'', o', S', J'⟩ := q
      exact ⟨h', tk', nx', e, F'', N'', o', S', ih (i + 1) _ _ (by omega) J' S'⟩
  exact all _ 0 [] news (by omega) h0 (.inr ⟨_, hm, rfl, _, rfl⟩)
theorem compT_list {Fin : Shared → List Value → List (Addr × Obj) → Prop} {ax : Addr} {xs : List Value} {k : Nat} {news : List (Addr × Obj)} (J : Nat → List Value → List (Addr × Obj) → Prop)
    (hh : A.handled = none) (F : Fr h₀ L s₁.heap m) (N : News h₀ L s₁.heap news) (hm : (ax, listOf xs.toArray k) ∈ news) (hsz : xs.length ≤ 1000) (h0 : J 0 [] news)
    (turn : ∀ i v ys nx I oI C oC D m₂ h tk (E' : Value → Shared → Prop), xs[i]? = some v → J i ys nx → LCg.SrcAt h₀ ax xs.toArray nx → LCg.NsObj oC m₂ → m₂ x = some v → Fr h₀ L h m → News h₀ L h ((I, oI) :: (C, oC) :: (D, LCg.lst ys) :: nx) → LCg.Off3 I C D nx → ((@Ne Nat I C) ∧ (@Ne Nat I D) ∧ (@Ne Nat C D)) →
      wpAny (model prog w) A (isTrue ct (compEnvC scope cl C env) (eval ct (compEnvC scope cl C env))) (fun ok s' => if ok = true then
        wpAny (model prog w) A (eval elt (compEnvC scope cl C env)) (LCg.CompEnd h₀ L m { s₁ with heap := h, toks := tk } I oI C oC D (LCg.lst ys) (LCg.SrcAt h₀ ax xs.toArray) (fun y nx' => J (i + 1) (ys ++ [y]) nx')) E' s'
        else LCg.CompEnd h₀ L m { s₁ with heap := h, toks := tk } I oI C oC D (LCg.lst ys) (LCg.SrcAt h₀ ax xs.toArray) (fun _ nx' => J (i + 1) ys nx') Value.none s') E' { s₁ with heap := h, toks := tk })
    (fin : ∀ g ys nx, J xs.length ys nx → Fin { s₁ with heap := g } ys nx) : LCt.CompSrcT prog w A h₀ L m env ct elt x scope cl Fin (.ref ax) s₁ := by
  refine LCt.CompSrcT.ledger hh F N hm (by rw [sizeLine_eq, List.size_toArray]; omega) fun g => ?_
  rw [List.size_toArray]
  have all : ∀ j i ys nx, i + j = xs.length → J i ys nx → LCg.SrcAt h₀ ax xs.toArray nx → LCt.CompRestT prog w A h₀ L m env ct elt x scope cl { s₁ with heap := g } (LCg.SrcAt h₀ ax xs.toArray) (fun i v => xs.toArray[i]? = some v) (Fin { s₁ with heap := g }) j i ys nx := by
    intro j
    induction j with
    | zero =>
      intro i ys nx hi hJ _
      obtain rfl : i = xs.length := by omega
      exact fin g ys nx hJ
    | succ j ih =>
      intro i ys nx hi hJ hS v I oI C oC D m₂ h tk E' hv hC hx F' N' o3 n3
      refine wpAny_mono (turn i v ys nx I oI C oC D m₂ h tk E' (by simpa using hv) hJ hS hC hx F' N' o3 n3) (fun ok s' q => ?_) fun _ _ e => e
      cases ok with
      | true =>
        simp only [if_true] at q ⊢
        refine wpAny_mono q (fun y s' q => ?_) fun _ _ e => e
        obtain ⟨h', tk', nx', e, F'', N'', o', S', J'⟩ := q
        exact ⟨h', tk', nx', e, F'', N'', o', S', ih (i + 1) _ _ (by omega) J' S'⟩
      | false =>
        simp only [Bool.false_eq_true, if_false] at q ⊢
        obtain ⟨h', tk', nx', e, F'', N'', o', S', J'⟩ := q
        exact ⟨h', tk', nx', e, F'', N'', o', S', ih (i + 1) _ _ (by omega) J' S'⟩
  exact all _ 0 [] news (by omega) h0 (.inr ⟨_, hm, rfl, _, rfl⟩)
theorem compU_same {Fin : Shared → List Value → List (Addr × Obj) → Prop} {ax : Addr} {xs : List Value} {k : Nat} {news : List (Addr × Obj)} (J : Nat → List Value → Prop)
    (hh : A.handled = none) (F : Fr h₀ L s₁.heap m) (N : News h₀ L s₁.heap news) (hm : (ax, listOf xs.toArray k) ∈ news) (hsz : xs.length ≤ 1000) (h0 : J 0 [])
    (turn : ∀ i v ys I oI C oC D m₂ h tk (E' : Value → Shared → Prop), xs[i]? = some v → J i ys → LCg.SrcAt h₀ ax xs.toArray news → LCg.NsObj oC m₂ → m₂ x = some v → Fr h₀ L h m → News h₀ L h ((I, oI) :: (C, oC) :: (D, LCg.lst ys) :: news) → LCg.Off3 I C D news → ((@Ne Nat I C) ∧ (@Ne Nat I D) ∧ (@Ne Nat C D)) →
      wpAny (model prog w) A (eval elt (compEnvC scope cl C env)) (LCg.CompEnd h₀ L m { s₁ with heap := h, toks := tk } I oI C oC D (LCg.lst ys) (LCg.SrcAt h₀ ax xs.toArray) (fun y nx' => J (i + 1) (ys ++ [y]) ∧ nx' = news)) E' { s₁ with heap := h, toks := tk })
    (fin : ∀ g ys, J xs.length ys → Fin { s₁ with heap := g } ys news) : LCg.CompSrc prog w A h₀ L m env elt x scope cl Fin (.ref ax) s₁ := by
  refine compU_list (fun i ys nx => J i ys ∧ nx = news) hh F N hm hsz ⟨h0, rfl⟩ ?_ ?_
  · rintro i v ys nx I oI C oC D m₂ h tk E' hv ⟨hJ, rfl⟩
    exact turn i v ys I oI C oC D m₂ h tk E' hv hJ
  · rintro g ys nx ⟨hJ, rfl⟩
    exact fin g ys hJ
theorem compT_same {Fin : Shared → List Value → List (Addr × Obj) → Prop} {ax : Addr} {xs : List Value} {k : Nat} {news : List (Addr × Obj)} (J : Nat → List Value → Prop)
    (hh : A.handled = none) (F : Fr h₀ L s₁.heap m) (N : News h₀ L s₁.heap news) (hm : (ax, listOf xs.toArray k) ∈ news) (hsz : xs.length ≤ 1000) (h0 : J 0 [])
    (turn : ∀ i v ys I oI C oC D m₂ h tk (E' : Value → Shared → Prop), xs[i]? = some v → J i ys → LCg.SrcAt h₀ ax xs.toArray news → LCg.NsObj oC m₂ → m₂ x = some v → Fr h₀ L h m → News h₀ L h ((I, oI) :: (C, oC) :: (D, LCg.lst ys) :: news) → LCg.Off3 I C D news → ((@Ne Nat I C) ∧ (@Ne Nat I D) ∧ (@Ne Nat C D)) →
      wpAny (model prog w) A (isTrue ct (compEnvC scope cl C env) (eval ct (compEnvC scope cl C env))) (fun ok s' => if ok = true then
        wpAny (model prog w) A (eval elt (compEnvC scope cl C env)) (LCg.CompEnd h₀ L m { s₁ with heap := h, toks := tk } I oI C oC D (LCg.lst ys) (LCg.SrcAt h₀ ax xs.toArray) (fun y nx' => J (i + 1) (ys ++ [y]) ∧ nx' = news)) E' s'
        else LCg.CompEnd h₀ L m { s₁ with heap := h, toks := tk } I oI C oC D (LCg.lst ys) (LCg.SrcAt h₀ ax xs.toArray) (fun _ nx' => J (i + 1) ys ∧ nx' = news) Value.none s') E' { s₁ with heap := h, toks := tk })
    (fin : ∀ g ys, J xs.length ys → Fin { s₁ with heap := g } ys news) : LCt.CompSrcT prog w A h₀ L m env ct elt x scope cl Fin (.ref ax) s₁ := by
  refine compT_list (fun i ys nx => J i ys ∧ nx = news) hh F N hm hsz ⟨h0, rfl⟩ ?_ ?_
  · rintro i v ys nx I oI C oC D m₂ h tk E' hv ⟨hJ, rfl⟩
    exact turn i v ys I oI C oC D m₂ h tk E' hv hJ
  · rintro g ys nx ⟨hJ, rfl⟩
    exact fin g ys hJ
theorem end_same {D I C : Addr} {oI oC oD : Obj} {S : List (Addr × Obj) → Prop} {J : Value → Prop} {y : Value} {h' : Heap} {tk : Nat} {all news : List (Addr × Obj)}
    (F : Fr h₀ L h' m) (N : News h₀ L h' all) (sub : ∀ p ∈ (I, oI) :: (C, oC) :: (D, oD) :: news, p ∈ all) (off : LCg.Off3 I C D news) (hS : S news) (r : J y) :
    LCg.CompEnd h₀ L m s₁ I oI C oC D oD S (fun y nx' => J y ∧ nx' = news) y { s₁ with heap := h', toks := tk } := .intro F N news sub off hS ⟨r, rfl⟩
end
-- part Mut
section
variable {prog : Program} {w : World} {A : Around} {E : Value → Shared → Prop} {s : Shared} {h₀ h h' : Heap} {L D : Addr} {m : Str → Option Value} {full keep : List (Addr × Obj)} {o o' : Obj}
theorem store_L {xs : List Value} {n : Nat} {k : Int} {t : Tok} {x : Value} {Q : Unit → Shared → Prop} (keep : List (Addr × Obj)) (F : Fr h₀ L s.heap m) (N : News h₀ L s.heap full) (hm : (D, listOf xs.toArray n) ∈ full) (hk : ∀ p ∈ keep, p ∈ full) (hne : ∀ p ∈ keep, p.1 ≠ D)
    (h0 : 0 ≤ k) (hfit : k < 2 ^ 63) (h1 : k < xs.length) (h : ∀ h', Fr h₀ L h' m → News h₀ L h' ((D, listOf (xs.set k.toNat x).toArray n) :: keep) → Q () { s with heap := h' }) : wpAny (model prog w) A (setItem (.ref D) (.int k t) x) Q E s := by
  have z := N _ hm
  have hs : xs.toArray.size = xs.length := by rw [List.size_toArray]
  refine ki_setAt z.1 h0 hfit (by omega) (h _ (F.change (Heap.SameBut.update ..) z.2.1 z.2.2) (News.upd N hm hk hne (Heap.SameBut.update ..) ?_))
  have q := PySem.IsL.update z.1 (·.setIfInBounds k.toNat x)
  have e1 : xs.toArray.setIfInBounds k.toNat x = (xs.set k.toNat x).toArray := by
    apply Array.toList_inj.mp
    simp
  have e2 : (if (xs.toArray.setIfInBounds k.toNat x).size == xs.toArray.size then n else n + 1) = n := by simp
  rw [e2, e1] at q
  exact q
theorem set_L1 {K : Type} [DecidableEq K] {knd : KeyKind prog w K} {kvs : List (K × Value)} {k : K} {key v : Value} {Q : Unit → Shared → Prop} {x : Addr × Obj} {rest : List (Addr × Obj)} (F : Fr h₀ L s.heap m) (N : News h₀ L s.heap (x :: (D, o) :: rest)) (hx : D < x.1) (hne : ∀ p ∈ rest, p.1 ≠ D)
    (hd : o.IsDictOf knd kvs) (hkey : knd.is k key = true) (hsz : kvs.length ≤ 1000)
    (h : ∀ h' o', Fr h₀ L h' m → News h₀ L h' ((D, o') :: x :: rest) → o'.IsDictOf knd (stored kvs k v) → Q () { s with heap := h', toks := s.toks + 1 }) : wpAny (model prog w) A (setItem (.ref D) key v) Q E s :=
  set_L (x :: rest) F N (List.Mem.tail _ (List.Mem.head _)) (fun p hp => (List.mem_cons.mp hp).elim (fun e => e ▸ List.Mem.head _) fun hp => List.Mem.tail _ (List.Mem.tail _ hp))
    (List.forall_mem_cons.mpr ⟨Nat.ne_of_gt hx, hne⟩) hd hkey hsz h
theorem len_L {xs : List Value} {n : Nat} {Q : Value → Shared → Prop} (N : News h₀ L s.heap full) (hm : (D, listOf xs.toArray n) ∈ full) (hsz : xs.length ≤ 1000000) (h : ∀ t tk, Q (.int (xs.length : Int) t) { s with toks := tk }) :
    wpAny (model prog w) A (call (.builtin "len") [.ref D]) Q E s := by
  have e : xs.toArray.size = xs.length := by simp
  exact len_list (News.isList N hm) (by rw [e]; omega) (by rw [e]; exact h _ _)
theorem item_L {value slice : PySem.Expr} {xs : List Value} {n : Nat} {k : Int} {t : Tok} {v : Value} {Q : Value → Shared → Prop} (N : News h₀ L s.heap full) (hm : (D, listOf xs.toArray n) ∈ full) (h0 : 0 ≤ k) (hfit : k < 2 ^ 63) (hv : xs[k.toNat]? = some v) (h : Q v s)
    (hs : subscripted slice false (.ref D) (.int k t) = operate [.ref D, .int k t] (getItem (.ref D) (.int k t)) := by with_unfolding_all rfl) (hg : ∀ r, letTemporaryGo value (.ref D) r = pure () := by intro _; with_unfolding_all rfl) :
    wpAny (model prog w) A (subscriptTail value slice (.ref D) (.int k t)) Q E s := item_listL (News.isList N hm) h0 hfit hv h hs hg
theorem anyint_L {value slice : PySem.Expr} {xs : List Value} {ns : List Int} {n : Nat} {k : Int} {t : Tok} {Q : Value → Shared → Prop} (N : News h₀ L s.heap full) (hm : (D, listOf xs.toArray n) ∈ full) (hi : IntsAre xs ns) (h0 : 0 ≤ k) (h1 : k < ns.length) (hfit : k < 2 ^ 63) (h : ∀ i t, Q (.int i t) s)
    (hs : subscripted slice false (.ref D) (.int k t) = operate [.ref D, .int k t] (getItem (.ref D) (.int k t)) := by with_unfolding_all rfl) :
    wpAny (model prog w) A (subscriptTail value slice (.ref D) (.int k t)) Q E s := item_anyK (News.isList N hm) hi h0 h1 hfit (fun _ => h _ _) hs
end
theorem fmod_in (a : Int) {b : Int} (h : 0 < b) : 0 ≤ a.fmod b ∧ a.fmod b < b := ⟨Int.fmod_nonneg_of_pos a h, Int.fmod_lt_of_pos a h⟩
theorem fdiv_in {a b : Int} (h : 0 < b) (ha : 0 ≤ a) : 0 ≤ a.fdiv b := Int.fdiv_nonneg ha (Int.le_of_lt h)
theorem allLt_mem {d : Addr} : ∀ {l : List (Addr × Obj)}, AllLt d l → ∀ p ∈ l, p.1 < d
  | [], _, _, h => nomatch h
  | _ :: _, x, p, h => by
    rcases List.mem_cons.mp h with rfl | h
    · exact x.1
    · exact allLt_mem x.2 p h
theorem name_lt {a b : Addr} {l : List (Addr × Obj)} {P : Prop} (_ : a < b ∧ AllLt b l) (k : ∀ x : Addr, x = b → P) : P := k b rfl
theorem name_cell {o : Obj} {d : Data} {P : Prop} (_ : o.data = d) (k : ∀ x : Obj, x = o → P) : P := k o rfl
theorem tail_of {h₀ h : Heap} {L : Addr} {a b : Addr × Obj} {tl : List (Addr × Obj)} {P : Prop} (_ : News h₀ L h (a :: b :: tl)) (k : ∀ x : List (Addr × Obj), x = tl → P) : P := k tl rfl
-- part Src
section
variable {prog : Program} {w : World} {A : Around} {E : Value → Shared → Prop} {s₁ : Shared} {h₀ : Heap} {L : Addr} {m : Str → Option Value} {env : Env} {ct elt : Expr} {x : Str} {scope : Scope} {cl : List (Str × Addr)}
theorem compU_base {Fin : Shared → List Value → List (Addr × Obj) → Prop} {ax : Addr} {xs : List Value} {news : List (Addr × Obj)} (J : Nat → List Value → List (Addr × Obj) → Prop)
    (hh : A.handled = none) (F : Fr h₀ L s₁.heap m) (N : News h₀ L s₁.heap news) (hl : h₀.IsList ax xs.toArray) (hsz : xs.length ≤ 1000) (h0 : J 0 [] news)
    (turn : ∀ i v ys nx I oI C oC D m₂ h tk (E' : Value → Shared → Prop), xs[i]? = some v → J i ys nx → LCg.SrcAt h₀ ax xs.toArray nx → LCg.NsObj oC m₂ → m₂ x = some v → Fr h₀ L h m → News h₀ L h ((I, oI) :: (C, oC) :: (D, LCg.lst ys) :: nx) → LCg.Off3 I C D nx → ((@Ne Nat I C) ∧ (@Ne Nat I D) ∧ (@Ne Nat C D)) →
      wpAny (model prog w) A (eval elt (compEnvC scope cl C env)) (LCg.CompEnd h₀ L m { s₁ with heap := h, toks := tk } I oI C oC D (LCg.lst ys) (LCg.SrcAt h₀ ax xs.toArray) (fun y nx' => J (i + 1) (ys ++ [y]) nx')) E' { s₁ with heap := h, toks := tk })
    (fin : ∀ g ys nx, J xs.length ys nx → Fin { s₁ with heap := g } ys nx) : LCg.CompSrc prog w A h₀ L m env elt x scope cl Fin (.ref ax) s₁ := by
  refine LCg.CompSrc.base hh F N hl (by rw [sizeLine_eq, List.size_toArray]; omega) fun g => ?_
  rw [List.size_toArray]
  have all : ∀ j i ys nx, i + j = xs.length → J i ys nx → LCg.CompRest prog w A h₀ L m env elt x scope cl { s₁ with heap := g } (LCg.SrcAt h₀ ax xs.toArray) (fun i v => xs.toArray[i]? = some v) (Fin { s₁ with heap := g }) j i ys nx := by
    intro j
    induction j with
    | zero =>
      intro i ys nx hi hJ
      obtain rfl : i = xs.length := by omega
      exact fin g ys nx hJ
    | succ j ih =>
      intro i ys nx hi hJ v I oI C oC D m₂ h tk E' hv hC hx F' N' o3 n3
      refine wpAny_mono (turn i v ys nx I oI C oC D m₂ h tk E' (by simpa using hv) hJ (.inl hl) hC hx F' N' o3 n3) (fun y s' q => ?_) fun _ _ e => e
      obtain ⟨h', tk', nx', e, F'', N'', o', S', J'⟩ := q
      exact ⟨h', tk', nx', e, F'', N'', o', S', ih (i + 1) _ _ (by omega) J'⟩
  exact all _ 0 [] news (by omega) h0
theorem top_list {K : Frag} {l : Addr} {vs : List Value} {n : Nat} {h : Heap} (X : K.In h) (e : K.lookup l = some (listOf vs.toArray n)) : h.IsList l vs.toArray := ⟨_, X _ _ e, rfl, _, rfl⟩
theorem len_K {s : Shared} {l : Addr} {xs : List Value} {Q : Value → Shared → Prop} (F : Fr h₀ L s.heap m) (hl : h₀.IsList l xs.toArray) (n : Int) (hn : (xs.length : Int) = n) (hsz : n ≤ 1000000) (h : ∀ t tk, Q (.int n t) { s with toks := tk }) :
    wpAny (model prog w) A (call (.builtin "len") [.ref l]) Q E s := by
  subst hn
  have e : xs.toArray.size = xs.length := by simp
  obtain ⟨o, ho, r⟩ := hl
  exact len_list ⟨o, F.keep _ _ ho, r⟩ (by rw [e]; omega) (by rw [e]; exact h _ _)
theorem item_K {s : Shared} {value slice : PySem.Expr} {l : Addr} {xs : List Value} {k : Int} {t : Tok} {v : Value} {Q : Value → Shared → Prop} (F : Fr h₀ L s.heap m) (hl : h₀.IsList l xs.toArray) (h0 : 0 ≤ k) (hfit : k < 2 ^ 63) (hv : xs[k.toNat]? = some v) (h : Q v s)
    (hs : subscripted slice false (.ref l) (.int k t) = operate [.ref l, .int k t] (getItem (.ref l) (.int k t)) := by with_unfolding_all rfl) (hg : ∀ r, letTemporaryGo value (.ref l) r = pure () := by intro _; with_unfolding_all rfl) :
    wpAny (model prog w) A (subscriptTail value slice (.ref l) (.int k t)) Q E s := by
  obtain ⟨o, ho, r⟩ := hl
  exact item_listL ⟨o, F.keep _ _ ho, r⟩ h0 hfit hv h hs hg
end
def Apart (pre old : List (Addr × Obj)) : Prop := ∀ p ∈ pre, ∀ q ∈ old, q.1 ≠ p.1
theorem Apart.nil {old : List (Addr × Obj)} : Apart [] old := fun _ h => nomatch h
theorem Apart.cons {p : Addr × Obj} {pre old : List (Addr × Obj)} (a : ∀ q ∈ old, q.1 ≠ p.1) (k : Apart pre old) : Apart (p :: pre) old := fun x hx => (List.mem_cons.mp hx).elim (fun e => e ▸ a) (k x)
theorem Apart.append {pre pre' old : List (Addr × Obj)} (a : Apart pre old) (k : Apart pre' old) : Apart (pre ++ pre') old := fun x hx => (List.mem_append.mp hx).elim (a x) (k x)
theorem Apart.sub {pre old old' : List (Addr × Obj)} (a : Apart pre old) (k : ∀ p ∈ old', ∃ q ∈ old, q.1 = p.1) : Apart pre old' := fun x hx q hq => let ⟨y, hy, e⟩ := k q hq; e ▸ a x hx y hy
theorem Apart.symm {pre old : List (Addr × Obj)} (a : Apart pre old) : Apart old pre := fun x hx q hq e => a q hq x hx e.symm
theorem Apart.ne {pre old : List (Addr × Obj)} {D : Addr} {o : Obj} (a : Apart pre old) (h : (D, o) ∈ old) : ∀ p ∈ pre, p.1 ≠ D := fun p hp e => a p hp _ h e.symm
theorem apart2 {x d : Addr} {ox od : Obj} {news : List (Addr × Obj)} (l1 : ∀ p ∈ news, p.1 < d) (l2 : d < x) : Apart [(x, ox), (d, od)] news :=
  Apart.cons (fun q hq => Nat.ne_of_lt (Nat.lt_trans (l1 q hq) l2)) (Apart.cons (fun q hq => Nat.ne_of_lt (l1 q hq)) Apart.nil)
theorem ne_append {D : Addr} {a b : List (Addr × Obj)} (x : ∀ p ∈ a, p.1 ≠ D) (y : ∀ p ∈ b, p.1 ≠ D) : ∀ p ∈ a ++ b, p.1 ≠ D := fun p hp => (List.mem_append.mp hp).elim (x p) (y p)
theorem ne_cons {D : Addr} {a : Addr × Obj} {b : List (Addr × Obj)} (x : a.1 ≠ D) (y : ∀ p ∈ b, p.1 ≠ D) : ∀ p ∈ a :: b, p.1 ≠ D := List.forall_mem_cons.mpr ⟨x, y⟩
theorem off1_mem {D : Addr} : ∀ {l : List (Addr × Obj)}, LCg.Off1 D l → ∀ p ∈ l, p.1 ≠ D
  | [], _, _, h => nomatch h
  | _ :: _, x, p, h => by
    rcases List.mem_cons.mp h with rfl | h
    · exact x.1
    · exact off1_mem x.2 p h
theorem off3_app {I C D : Addr} {oI oC oD : Obj} {pre nx : List (Addr × Obj)} (ha : Apart pre ((I, oI) :: (C, oC) :: (D, oD) :: nx)) (o : LCg.Off3 I C D nx) : LCg.Off3 I C D (pre ++ nx) :=
  LCg.Off3.of fun p hp => (List.mem_append.mp hp).elim (fun h => ⟨ha.ne (List.Mem.head _) p h, ha.ne (List.Mem.tail _ (List.Mem.head _)) p h, ha.ne (List.Mem.tail _ (List.Mem.tail _ (List.Mem.head _))) p h⟩) (o.mem p)
theorem srcAt_app {h₀ : Heap} {ax : Addr} {its : Array Value} {pre nx : List (Addr × Obj)} : LCg.SrcAt h₀ ax its nx → LCg.SrcAt h₀ ax its (pre ++ nx)
  | .inl h => .inl h
  | .inr ⟨o, hm, r⟩ => .inr ⟨o, List.mem_append_right _ hm, r⟩
theorem end_app {h₀ h' : Heap} {L D I C : Addr} {m : Str → Option Value} {oI oC oD : Obj} {s₁ : Shared} {S : List (Addr × Obj) → Prop} {R : Value → List (Addr × Obj) → Prop} {y : Value} {tk : Nat} {pre nx : List (Addr × Obj)}
    (F : Fr h₀ L h' m) (N : News h₀ L h' (pre ++ (I, oI) :: (C, oC) :: (D, oD) :: nx)) (ha : Apart pre ((I, oI) :: (C, oC) :: (D, oD) :: nx)) (off : LCg.Off3 I C D nx) (hS : S (pre ++ nx)) (r : R y (pre ++ nx)) :
    LCg.CompEnd h₀ L m s₁ I oI C oC D oD S R y { s₁ with heap := h', toks := tk } :=
  .intro F N (pre ++ nx) (fun p hp => by
    rcases List.mem_cons.mp hp with rfl | hp
    · exact List.mem_append_right _ (List.Mem.head _)
    rcases List.mem_cons.mp hp with rfl | hp
    · exact List.mem_append_right _ (List.Mem.tail _ (List.Mem.head _))
    rcases List.mem_cons.mp hp with rfl | hp
    · exact List.mem_append_right _ (List.Mem.tail _ (List.Mem.tail _ (List.Mem.head _)))
    rcases List.mem_append.mp hp with hp | hp
    · exact List.mem_append_left _ hp
    · exact List.mem_append_right _ (List.Mem.tail _ (List.Mem.tail _ (List.Mem.tail _ hp)))) (off3_app ha off) hS r
-- part Loops
def TurnP (h₀ : Heap) (L : Addr) (X : Addr → Prop) (J : Nat → List (Str × Value) → List (Addr × Obj) → Prop) (i : Nat) (own : List (Addr × Obj)) (s₁ : Shared) (Q : Flow → Shared → Prop) (f : Flow) (s₂ : Shared) : Prop :=
  match f with
  | .ret v => Q (.ret v) s₂
  | .brk => Q .next s₂
  | _ => ∃ h' tk m' ps' nx', s₂ = { s₁ with heap := h', toks := tk } ∧ Fr h₀ L h' m' ∧ News h₀ L h' (own ++ nx') ∧ (∀ p ∈ own, ∀ q ∈ nx', ¬ X q.1 → q.1 ≠ p.1) ∧ (∀ p ∈ ps', m' p.1 = some p.2) ∧ J i ps' nx'
section
variable {prog : Program} {w : World} {A : Around} {E : Value → Shared → Prop} {s : Shared} {env : Env} {h₀ : Heap} {x : Str} {body : List Stmt} {Q : Flow → Shared → Prop}
theorem loop_core2 {I : Addr} {fp : List Addr} {n : Nat} {P : Nat → Value → Prop} {St : Nat → Heap → Prop} {m₀ : Str → Option Value} {ps₀ : List (Str × Value)} {news : List (Addr × Obj)} (X : Addr → Prop) (J : Nat → List (Str × Value) → List (Addr × Obj) → Prop)
    (W : Walks prog w A I fp [I] n P St) (hI : h₀.get? I = none) (hnI : ∀ q ∈ news, q.1 ≠ I) (hX : ¬ X I) (hL : env.locals ∉ fp) (hst : St 0 s.heap) (hit : ∀ i h, St i h → ∃ o, h.get? I = some o)
    (F : Fr h₀ env.locals s.heap m₀) (N : News h₀ env.locals s.heap news) (hk : ∀ p ∈ ps₀, m₀ p.1 = some p.2) (hj : J 0 ps₀ news)
    (turn : ∀ i v ps nx u h tk own, i < n → P i v → J i ps nx → (∀ p ∈ own, p.1 ∈ fp) → (∀ p ∈ nx, p.1 ≠ I) → Fr h₀ env.locals h (fun y => if y = x then some v else kstB u ps y) → News h₀ env.locals h (own ++ nx) →
      wpAny (model prog w) A (execs body env) (TurnP h₀ env.locals X J (i + 1) own { s with heap := h, toks := tk } Q) E { s with heap := h, toks := tk })
    (done : ∀ ps nx u h tk, J n ps nx → Fr h₀ env.locals h (kstB u ps) → News h₀ env.locals h nx → Q .next { s with heap := h, toks := tk }) :
    LoopAtV prog w A h₀ env x body Q E (.ref I) s := by
  let J' : Nat → (Str → Option Value) → List (Addr × Obj) → Prop := fun i m₁ nx => ∃ ps, (∀ p ∈ ps, m₁ p.1 = some p.2) ∧ J i ps nx
  have off : ∀ {nx : List (Addr × Obj)}, (∀ q ∈ nx, q.1 ≠ I) → ∀ p ∈ nx, p.1 ∉ [I] := fun h p hp hm => h p hp (List.mem_singleton.mp hm)
  refine ⟨I, fp, [I], n, P, St, m₀, news, J', rfl, W, hL, ?_, off hnI, hst, F, N, ⟨ps₀, hk, hj⟩, ?_, ?_⟩
  · intro b hb
    rw [List.mem_singleton.mp hb]; exact hI
  · rintro i v m₁ nx s₁ own ⟨h', tk', rfl⟩ hin hP ⟨ps, hk', hJ⟩ hoff hown hown2 hall hst' F₁ N₁
    obtain ⟨o', ho'⟩ := hit _ _ hst'
    have hmem : (I, o') ∈ own := hall I (W.sub I (List.mem_singleton.mpr rfl)) hI o' ho'
    refine wpAny_mono (turn i v ps nx m₁ h' tk' own hin hP hJ hown (fun p hp e => hoff p hp (List.mem_singleton.mpr e)) (fr_k hk' F₁) N₁) (fun f s₂ p => ?_) fun _ _ e => e
    have fin : (∃ h'' tk m' ps' nx', s₂ = { ({ s with heap := h', toks := tk' } : Shared) with heap := h'', toks := tk } ∧ Fr h₀ env.locals h'' m' ∧ News h₀ env.locals h'' (own ++ nx') ∧ (∀ p ∈ own, ∀ q ∈ nx', ¬ X q.1 → q.1 ≠ p.1) ∧ (∀ p ∈ ps', m' p.1 = some p.2) ∧ J (i + 1) ps' nx') →
        LoopStepU h₀ env.locals [I] own (J' (i + 1)) { s with heap := h', toks := tk' } .next s₂ := by
      rintro ⟨h'', tk, m', ps', nx', e, F', N', ha, hk'', hJ'⟩
      refine ⟨rfl, h'', tk, m', nx', e, F', N', off fun q hq e => ?_, ps', hk'', hJ'⟩
      exact ha _ hmem q hq (e ▸ hX) e
    cases f with
    | ret v => exact p
    | brk => exact p
    | next => exact fin p
    | cont => exact fin p
  · rintro h' tk m' nx F' N' _ ⟨ps, hk', hJ⟩
    exact done ps nx m' h' tk hJ (fr_k0 hk' F') N'
theorem range_rule2 {r : Addr} {a₀ b₀ : Int} {t₀ u₀ v₀ : Tok} {n : Nat} {m₀ : Str → Option Value} {ps₀ : List (Str × Value)} {news : List (Addr × Obj)} (J : Nat → List (Str × Value) → List (Addr × Obj) → Prop)
    (hh : A.handled = none) (hr : IsRange s.heap r a₀ b₀ 1 t₀ u₀ v₀) (hsmall : Builtin.Range.small a₀ b₀ 1 = true) (hn : Builtin.Range.rangeSize a₀ b₀ 1 = (n : Int))
    (F : Fr h₀ env.locals s.heap m₀) (N : News h₀ env.locals s.heap news) (hk : ∀ p ∈ ps₀, m₀ p.1 = some p.2) (hj : J 0 ps₀ news)
    (turn : ∀ i t ps nx u h tk own, i < n → J i ps nx → Apart own nx → Fr h₀ env.locals h (fun y => if y = x then some (.int (a₀ + (i : Nat)) t) else kstB u ps y) → News h₀ env.locals h (own ++ nx) →
      wpAny (model prog w) A (execs body env) (TurnP h₀ env.locals (fun _ => False) J (i + 1) own { s with heap := h, toks := tk } Q) E { s with heap := h, toks := tk })
    (done : ∀ ps nx u h tk, J n ps nx → Fr h₀ env.locals h (kstB u ps) → News h₀ env.locals h nx → Q .next { s with heap := h, toks := tk }) :
    wpAny (model prog w) A (pyIter (.ref r)) (fun it s₂ => LoopAtV prog w A h₀ env x body Q E it s₂) E s := by
  refine wpAny_pyIter_range hr hsmall ?_
  have W := Walks.range (prog := prog) (w := w) hh s.heap.objs.size a₀ 1 n
  have hLlt : env.locals < s.heap.objs.size := F.ns.lt
  refine loop_core2 (m₀ := m₀) (ps₀ := ps₀) (news := news) (fun _ => False) J W (next_is_new F) (fun q hq e => absurd (Heap.lt_size (N q hq).1) (e ▸ Nat.lt_irrefl _)) id (fun hm => absurd hLlt ((List.mem_singleton.mp hm) ▸ Nat.lt_irrefl _)) (by show IsRangeIter _ _ _ _ _; rw [hn]; simpa using Heap.get?_push_size _ rfl) (fun i h st => ⟨_, st⟩) (F.push _)
    (fun p hp => ⟨Heap.get?_push_of_some _ (N p hp).1, (N p hp).2⟩) hk hj ?_ done
  rintro i v ps nx u h tk own hi ⟨t, rfl⟩ hJ hown hne F₁ N₁
  have e1 : a₀ + (i : Int) * 1 = a₀ + (i : Int) := by omega
  rw [e1] at F₁
  exact turn i t ps nx u h tk own hi hJ (fun p hp q hq e => hne q hq (e.trans (List.mem_singleton.mp (hown p hp)))) F₁ N₁
theorem list_rule2 {l : Addr} {vs : List Value} {m₀ : Str → Option Value} {ps₀ : List (Str × Value)} {news : List (Addr × Obj)} (J : Nat → List (Str × Value) → List (Addr × Obj) → Prop)
    (hh : A.handled = none) (hl : s.heap.IsList l vs.toArray) (hll : l ≠ env.locals)
    (F : Fr h₀ env.locals s.heap m₀) (N : News h₀ env.locals s.heap news) (hk : ∀ p ∈ ps₀, m₀ p.1 = some p.2) (hj : J 0 ps₀ news)
    (turn : ∀ i v ps nx u h tk own, vs[i]? = some v → J i ps nx → (∀ p ∈ own, ∀ q ∈ nx, ¬ q.1 = l → q.1 ≠ p.1) → Fr h₀ env.locals h (fun y => if y = x then some v else kstB u ps y) → News h₀ env.locals h (own ++ nx) →
      wpAny (model prog w) A (execs body env) (TurnP h₀ env.locals (fun a => a = l) J (i + 1) own { s with heap := h, toks := tk } Q) E { s with heap := h, toks := tk })
    (done : ∀ ps nx u h tk, J vs.length ps nx → Fr h₀ env.locals h (kstB u ps) → News h₀ env.locals h nx → Q .next { s with heap := h, toks := tk }) :
    wpAny (model prog w) A (pyIter (.ref l)) (fun it s₂ => LoopAtV prog w A h₀ env x body Q E it s₂) E s := by
  obtain ⟨ol, hol, _⟩ := id hl
  have hlt : l < s.heap.objs.size := Heap.lt_size hol
  have hne : l ≠ s.heap.objs.size := Nat.ne_of_lt hlt
  refine wpAny_pyIter_list hl ?_
  have W := Walks.list (prog := prog) (w := w) hh s.heap.objs.size l hne vs.toArray
  have hLlt : env.locals < s.heap.objs.size := F.ns.lt
  rw [show vs.toArray.size = vs.length by simp] at W
  refine loop_core2 (m₀ := m₀) (ps₀ := ps₀) (news := news) (fun a => a = l) J W (next_is_new F) (fun q hq e => absurd (Heap.lt_size (N q hq).1) (e ▸ Nat.lt_irrefl _)) (fun e => hne e.symm) ?_ ⟨⟨_, Heap.get?_push_size _ rfl, rfl, rfl⟩, hl.at fun o e => Heap.get?_push_of_some _ e⟩ (fun i h st => ?_) (F.push _)
    (fun p hp => ⟨Heap.get?_push_of_some _ (N p hp).1, (N p hp).2⟩) hk hj ?_ done
  · intro hm
    rcases List.mem_cons.mp hm with e | hm
    · exact absurd hLlt (e ▸ Nat.lt_irrefl _)
    · exact hll (List.mem_singleton.mp hm).symm
  · obtain ⟨⟨o, ho, _⟩, _⟩ := st
    exact ⟨o, ho⟩
  · rintro i v ps nx u h tk own hi hP hJ hown hne' F₁ N₁
    refine turn i v ps nx u h tk own (by simpa using hP) hJ (fun p hp q hq hql e => ?_) F₁ N₁
    rcases List.mem_cons.mp (hown p hp) with h1 | h1
    · exact hne' q hq (e.trans h1)
    · exact hql (e.trans (List.mem_singleton.mp h1))
end
section
variable {h₀ : Heap} {L : Addr} {X : Addr → Prop} {J : Nat → List (Str × Value) → List (Addr × Obj) → Prop} {i : Nat} {own news' nx' : List (Addr × Obj)} {s₁ : Shared} {Q : Flow → Shared → Prop} {h' : Heap} {tk : Nat} {m' : Str → Option Value} {ps' : List (Str × Value)}
theorem TurnP.next (F : Fr h₀ L h' m') (N : News h₀ L h' news') (hn : ∀ p ∈ own ++ nx', p ∈ news') (hc : ∀ p ∈ own, ∀ q ∈ nx', ¬ X q.1 → q.1 ≠ p.1) (hk : ∀ p ∈ ps', m' p.1 = some p.2) (hj : J i ps' nx') : TurnP h₀ L X J i own s₁ Q .next { s₁ with heap := h', toks := tk } :=
  ⟨h', tk, m', ps', nx', rfl, F, fun p hp => N p (hn p hp), hc, hk, hj⟩
theorem TurnP.cont (F : Fr h₀ L h' m') (N : News h₀ L h' news') (hn : ∀ p ∈ own ++ nx', p ∈ news') (hc : ∀ p ∈ own, ∀ q ∈ nx', ¬ X q.1 → q.1 ≠ p.1) (hk : ∀ p ∈ ps', m' p.1 = some p.2) (hj : J i ps' nx') : TurnP h₀ L X J i own s₁ Q .cont { s₁ with heap := h', toks := tk } :=
  ⟨h', tk, m', ps', nx', rfl, F, fun p hp => N p (hn p hp), hc, hk, hj⟩
theorem offP {a b : List (Addr × Obj)} (h : Apart a b) : ∀ p ∈ a, ∀ q ∈ b, ¬ X q.1 → q.1 ≠ p.1 := fun p hp q hq _ => h p hp q hq
end
theorem Apart.nilr {a : List (Addr × Obj)} : Apart a [] := fun _ _ _ h => nomatch h
theorem Apart.consr {a b : List (Addr × Obj)} {x : Addr × Obj} (h : ∀ p ∈ a, p.1 ≠ x.1) (k : Apart a b) : Apart a (x :: b) := fun p hp q hq => (List.mem_cons.mp hq).elim (fun e => e ▸ fun e' => h p hp e'.symm) (k p hp q)
theorem Apart.appr {a b c : List (Addr × Obj)} (h : Apart a b) (k : Apart a c) : Apart a (b ++ c) := fun p hp q hq => (List.mem_append.mp hq).elim (h p hp q) (k p hp q)
theorem Apart.mono {a b c : List (Addr × Obj)} (h : Apart a b) (k : ∀ p ∈ c, p ∈ b) : Apart a c := fun p hp q hq => h p hp q (k q hq)
-- part Bself
section
variable {prog : Program} {w : World} {A : Around} {E : Value → Shared → Prop} {s : Shared}
theorem bytes_special : typeLookup (.type "bytes") "__bytes__" = pure (some (.builtin "bytes.__bytes__")) := by rw [typeLookup_type, builtinLookup_eq_fast]; kernel_rfl
theorem new_self {b : Array UInt8} {t : Tok} {Q : Value → Shared → Prop} (hQ : Q (.bytes b t) s) :
    codeAny (model prog w) A (.call (.builtin "bytes.__new__") ⟨[.type "bytes", .bytes b t], []⟩) (wants Q E) s := by
  refine codeAny_of_tree ?_
  show wpAny _ A.in1 (do checkBuiltinCall "bytes.__new__" ⟨[.type "bytes", .bytes b t], []⟩; again (.builtin "bytes.__new__" ⟨[.type "bytes", .bytes b t], []⟩)) _ _ s
  refine wpAny_bind (wpAny_of_eq (F.bm_newCall _) (wpAny_pure ⟨plainId_quiet F.bm_plain _, codeAny_builtin F.bm_entry ?_⟩))
  rw [Around.under_plainId F.bm_plain _]
  unfold Builtin.«bytes.__new__»
  refine wpAny_bind (wpAny_of_eq (a := true) rfl ?_)
  refine bm_if_false rfl ?_
  refine wpAny_bind (wpAny_of_eq F.bm_sub ?_)
  refine bm_if_false rfl ?_
  refine wpAny_bind (wpAny_of_eq (F.bm_bind _) ?_)
  refine wpAny_bind (wpAny_of_eq (a := ()) rfl ?_)
  refine wpAny_bind (wpAny_of_eq (a := ()) rfl ?_)
  refine bm_if_false rfl ?_
  refine wpAny_bind (wpAny_specialOf (PySem.W.typeIs_bytes _ _ _) bytes_special ?_)
  dsimp only
  refine wpAny_bind (wpAny_rule ?_)
  refine wpAny_bind (wpAny_of_eq (a := .type "bytes") rfl ?_)
  refine bm_if_true (by decide +kernel) ?_
  refine wpAny_of_eq (a := .done (.ret (.bytes b t))) rfl ?_
  exact hQ
theorem bytes_self {b : Array UInt8} {t : Tok} {Q : Value → Shared → Prop} (hQ : Q (.bytes b t) s) : wpAny (model prog w) A (call (.type "bytes") [.bytes b t]) Q E s := by
  refine callType_codes (Q₁ := fun obj s₁ => s₁.TypeIs obj "bytes" ∧ Q obj s₁) F.bm_called (F.bm_typeCall _) F.entry_object_init
    (new_self ⟨PySem.W.typeIs_bytes _ _ _, hQ⟩) fun obj s₁ h₁ => ?_
  exact ⟨h₁.1, F.args_object_init_2 obj _, object_init_meets F.bm_called.init.lookup F.bm_called.made (by decide) prog w A.in1 _ s₁ ⟨h₁.1, rfl, h₁.2⟩⟩
end
section
variable {prog : Program} {w : World} {A : Around} {E : Value → Shared → Prop} {s : Shared} {h₀ : Heap} {L l : Addr} {m : Str → Option Value} {full : List (Addr × Obj)}
theorem tuple_L {xs : List Value} {n : Nat} {Q : Value → Shared → Prop} (F : Fr h₀ L s.heap m) (N : News h₀ L s.heap full) (hm : (l, listOf xs.toArray n) ∈ full) (hz : xs.length ≤ 1000)
    (h : ∀ a h', Fr h₀ L h' m → News h₀ L h' ((a, ({ cls := .type "tuple", data := .seq xs.toArray 0 } : Obj)) :: full) → (∀ p ∈ full, p.1 < a) → Q (.ref a) { s with heap := h' }) : wpAny (model prog w) A (call (.type "tuple") [.ref l]) Q E s :=
  call_tuple_list (News.isList N hm) (fun h' k => by
    have F' : Fr h₀ L h' m := F.keeps k
    have N' : News h₀ L h' full := fun p hp => ⟨k _ _ (N p hp).1, (N p hp).2⟩
    exact h _ _ (F'.push _) (News.push F' N' _) fun p hp => Heap.lt_size (N' p hp).1) (hsz := by rw [sizeLine_eq, List.size_toArray]; omega)
end
-- part Data3
inductive TopAt (w : World) (news : List (Addr × Obj)) (sh : Addr) (kvs : List (Int × Value)) (gl : Addr) (glv : List Value) (gn : Nat) (fv : Value) (kvf : List (Str × Value)) : Prop
  | mk (tr kvt rv kvr ov kvo : _) (e0 : ShelfAt w news sh tr kvs) (e1 : StrDict w news (.ref tr) kvt) (e2 : valueAt kvt (Str.ofString "Root") = some rv) (e3 : StrDict w news rv kvr) (e4 : valueAt kvr (Str.ofString "OCProperties") = some ov) (e5 : StrDict w news ov kvo) (e6 : valueAt kvo (Str.ofString "OCGs") = some (.ref gl)) (e7 : (gl, listOf glv.toArray gn) ∈ news) (e8 : valueAt kvo (Str.ofString "D") = some fv) (e9 : StrDict w news fv kvf)
inductive NamesAre (news : List (Addr × Obj)) : List Value → List Str → Prop
  | nil : NamesAre news [] []
  | cons {v : Value} {x : Str} {vs : List Value} {xs : List Str} : NameAt news v x → NamesAre news vs xs → NamesAre news (v :: vs) (x :: xs)
theorem NamesAre.length {news : List (Addr × Obj)} {vs : List Value} {xs : List Str} (h : NamesAre news vs xs) : vs.length = xs.length := by
  induction h with
  | nil => rfl
  | cons _ _ ih => simp [ih]
theorem NamesAre.get {news : List (Addr × Obj)} {vs : List Value} {xs : List Str} (h : NamesAre news vs xs) : ∀ {i : Nat} {v : Value}, vs[i]? = some v → ∃ x, xs[i]? = some x ∧ NameAt news v x := by
  induction h with
  | nil => intro i v e; simp at e
  | cons a _ ih =>
    intro i v e
    cases i with
    | zero => simp at e; subst e; exact ⟨_, rfl, a⟩
    | succ i => simp at e; simpa using ih e
theorem take_snoc {α : Type} {l : List α} {i : Nat} {x : α} (h : l[i]? = some x) : l.take (i + 1) = l.take i ++ [x] := by
  rw [List.take_add_one, h]; rfl
inductive IntentAt (news : List (Addr × Obj)) : Value → List Str → Prop
  | none : IntentAt news .none []
  | one {v : Value} {x : Str} : NameAt news v x → IntentAt news v [x]
  | list {l : Addr} {n : Nat} {vs : List Value} {ws : List Str} : (l, listOf vs.toArray n) ∈ news → NamesAre news vs ws → ws ≠ [] → ws.length ≤ 2 → IntentAt news (.ref l) ws
section
variable {w : World} {l l' : List (Addr × Obj)} (hs : ∀ p ∈ l, p ∈ l')
include hs
theorem NamesAre.sub {vs : List Value} {ws : List Str} (h : NamesAre l vs ws) : NamesAre l' vs ws := by
  induction h with
  | nil => exact .nil
  | cons a _ ih => exact .cons (a.sub hs) ih
theorem IntentAt.sub {v : Value} {ws : List Str} : IntentAt l v ws → IntentAt l' v ws := by
  intro h
  cases h with
  | none => exact .none
  | one a => exact .one (a.sub hs)
  | list a b c d => exact .list (hs _ a) (b.sub hs) c d
theorem TopAt.sub {sh : Addr} {kvs : List (Int × Value)} {gl : Addr} {glv : List Value} {gn : Nat} {fv : Value} {kvf : List (Str × Value)} : TopAt w l sh kvs gl glv gn fv kvf → TopAt w l' sh kvs gl glv gn fv kvf :=
  fun ⟨tr, kvt, rv, kvr, ov, kvo, a, b, c, d, e, f, g, h, i, j⟩ => ⟨tr, kvt, rv, kvr, ov, kvo, a.sub hs, b.sub hs, c, d.sub hs, e, f.sub hs, g, hs _ h, i, j.sub hs⟩
end
def wordsOr (ws : List Str) : List Str := if ws = [] then [Str.ofString "View"] else ws
-- part Ne
theorem ne_ltr {a x b : Nat} {ob : Obj} {l : List (Addr × Obj)} (h : a < x ∧ AllLt x l) (hm : (b, ob) ∈ l) : b ≠ x := Nat.ne_of_lt (allLt_mem h.2 _ hm)
theorem ne_alll {x b : Nat} {ob : Obj} {l : List (Addr × Obj)} (h : ∀ p ∈ l, p.1 < x) (hm : (b, ob) ∈ l) : x ≠ b := Nat.ne_of_gt (h _ hm)
theorem ne_allr {x b : Nat} {ob : Obj} {l : List (Addr × Obj)} (h : ∀ p ∈ l, p.1 < x) (hm : (b, ob) ∈ l) : b ≠ x := Nat.ne_of_lt (h _ hm)
theorem NeAll.lt {a x : Nat} {l l' : List (Addr × Obj)} (h : a < x ∧ AllLt x l) (k : Sub l' l) : NeAll x l' := fun p hp => Nat.ne_of_lt (allLt_mem h.2 p (k p hp))
theorem NeAll.all {x : Nat} {l l' : List (Addr × Obj)} (h : ∀ p ∈ l, p.1 < x) (k : Sub l' l) : NeAll x l' := fun p hp => Nat.ne_of_lt (h p (k p hp))
theorem news_lt {h₀ h : Heap} {L a : Addr} {o : Obj} {l : List (Addr × Obj)} (N : News h₀ L h l) (hm : (a, o) ∈ l) : a < h.objs.size := Heap.lt_size (N _ hm).1
theorem led3 {a b c d : Addr × Obj} {p q news : List (Addr × Obj)} : (a :: (p ++ b :: (q ++ [c, d]))) ++ news = a :: (p ++ b :: (q ++ c :: d :: news)) := by simp
-- part InTup
section
variable {prog : Program} {w : World} {A : Around} {E : Value → Shared → Prop} {s : Shared} {h₀ : Heap} {L : Addr} {m : Str → Option Value}
def isStr (k : Str) : Value → Bool
  | .str x _ => x == k
  | _ => false
theorem any_strs {k : Str} {vs : List Value} {ys : List Str} (h : StrsAre vs ys) : vs.any (isStr k) = ys.any (· == k) := by
  induction h with
  | nil => rfl
  | cons x t _ ih => simp [isStr, ih]
theorem strs_mem {vs : List Value} {ys : List Str} (h : StrsAre vs ys) : ∀ v ∈ vs, ∃ x t, v = .str x t := by
  induction h with
  | nil => intro v hv; cases hv
  | cons x t _ ih =>
    intro v hv
    rcases List.mem_cons.mp hv with rfl | hv
    · exact ⟨_, _, rfl⟩
    · exact ih v hv
theorem in_tup_K {K : Frag} {l : Addr} {vs : List Value} {ys : List Str} {n : Nat} {k : Str} {t : Tok} {b : Bool} {Q : Value → Shared → Prop} (F : Fr h₀ L s.heap m) (X : K.In h₀) (e : K.lookup l = some { cls := .type "tuple", data := .seq vs.toArray n }) (hi : StrsAre vs ys) (hb : ys.any (· == k) = b)
    (h : Q (.bool b) s) : wpAny (model prog w) A (compareOp .In (.str k t) (.ref l)) Q E s := by
  refine PySem.SeqAt.in_tupleAt (isStr k) ⟨_, F.keep _ _ (X _ _ e), rfl, _, rfl⟩ (fun y hy => ?_) ?_
  · obtain ⟨x, u, rfl⟩ := strs_mem hi y (by simpa using hy)
    exact PySem.SeqAt.EqAt.str_str x u k t
  · have e1 : (vs.toArray.any (isStr k)) = b := by
      rw [← hb, ← any_strs hi]
      simp
    rw [e1]
    exact h
theorem notin_tup_K {K : Frag} {l : Addr} {vs : List Value} {ys : List Str} {n : Nat} {k : Str} {t : Tok} {b : Bool} {Q : Value → Shared → Prop} (F : Fr h₀ L s.heap m) (X : K.In h₀) (e : K.lookup l = some { cls := .type "tuple", data := .seq vs.toArray n }) (hi : StrsAre vs ys) (hb : (!(ys.any (· == k))) = b)
    (h : Q (.bool b) s) : wpAny (model prog w) A (compareOp .NotIn (.str k t) (.ref l)) Q E s := by
  refine PySem.SeqAt.notIn_tupleAt (isStr k) ⟨_, F.keep _ _ (X _ _ e), rfl, _, rfl⟩ (fun y hy => ?_) ?_
  · obtain ⟨x, u, rfl⟩ := strs_mem hi y (by simpa using hy)
    exact PySem.SeqAt.EqAt.str_str x u k t
  · have e1 : (!(vs.toArray.any (isStr k))) = b := by
      rw [← hb, ← any_strs hi]
      simp
    rw [e1]
    exact h
end
def pathV : List Value := [.str (Str.ofString "S") 700, .str (Str.ofString "s") 701, .str (Str.ofString "f") 702, .str (Str.ofString "F") 703, .str (Str.ofString "f*") 704, .str (Str.ofString "B") 705, .str (Str.ofString "B*") 706, .str (Str.ofString "b") 707, .str (Str.ofString "b*") 708]
def pathW : List Str := [Str.ofString "S", Str.ofString "s", Str.ofString "f", Str.ofString "F", Str.ofString "f*", Str.ofString "B", Str.ofString "B*", Str.ofString "b", Str.ofString "b*"]
theorem path_are : StrsAre pathV pathW := .cons _ _ (.cons _ _ (.cons _ _ (.cons _ _ (.cons _ _ (.cons _ _ (.cons _ _ (.cons _ _ (.cons _ _ (.nil)))))))))
def otherV : List Value := [.str (Str.ofString "sh") 710, .str (Str.ofString "Do") 711, .str (Str.ofString "BI") 712]
def otherW : List Str := [Str.ofString "sh", Str.ofString "Do", Str.ofString "BI"]
theorem other_are : StrsAre otherV otherW := .cons _ _ (.cons _ _ (.cons _ _ (.nil)))
def shownV : List Value := [.str (Str.ofString "Tj") 714, .str (Str.ofString "TJ") 715, .str (Str.ofString "'") 716, .str (Str.ofString "\"") 717]
def shownW : List Str := [Str.ofString "Tj", Str.ofString "TJ", Str.ofString "'", Str.ofString "\""]
theorem shown_are : StrsAre shownV shownW := .cons _ _ (.cons _ _ (.cons _ _ (.cons _ _ (.nil))))
theorem tups_look (w : World) : ((kx.heap_1 w.params).lookup 406 = some { cls := .type "tuple", data := .seq pathV.toArray 0 } ∧ (kx.heap_1 w.params).lookup 407 = some { cls := .type "tuple", data := .seq otherV.toArray 0 } ∧ (kx.heap_1 w.params).lookup 408 = some { cls := .type "tuple", data := .seq shownV.toArray 0 }) ∧ PySem.Challenge.rw_qd0128_01.prog = PySem.Challenge.rw_qd0128_01.prog := by
  k_fill
  exact ⟨⟨by k_is, by k_is, by k_is⟩, rfl⟩
-- part Cmp
section
variable {prog : Program} {w : World} {A : Around} {E : Value → Shared → Prop} {s : Shared} {h₀ : Heap} {L : Addr} {full : List (Addr × Obj)}
theorem ne_nil_L {l b : Addr} {xs : List Value} {n n2 : Nat} {Q : Value → Shared → Prop} (N : News h₀ L s.heap full) (hl : (l, listOf xs.toArray n) ∈ full) (hb : (b, listOf #[] n2) ∈ full) (hu : A.units < cLine) {t : Bool} (ht : (!xs.isEmpty) = t)
    (h : Q (.bool t) s) : wpAny (model prog w) A (compareOp .NotEq (.ref l) (.ref b)) Q E s := by
  subst ht
  have e1 := News.isList N hl
  have e2 := News.isList N hb
  cases xs with
  | nil => exact SeqAt.RcNeAt.lists (e := fun _ => true) e1 e2 rfl hu (fun j h1 => absurd h1 (Nat.not_lt_zero _)) prog w E Q h
  | cons x xs => exact SeqAt.RcNeAt.lists_lengths e1 e2 (by simp) hu prog w E Q h
end
theorem strs_ne {xs : List Value} {ws : List Str} (h : StrsAre xs ws) (k : ws ≠ []) : (!xs.isEmpty) = true := by
  cases h with
  | nil => exact absurd rfl k
  | cons => rfl
-- part Words
section
variable {prog : Program} {w : World} {A : Around} {E : Value → Shared → Prop} {s : Shared} {h₀ : Heap} {L : Addr} {full : List (Addr × Obj)}
theorem in_L {l : Addr} {xs : List Value} {n : Nat} {ns : List Str} {k : Str} {t : Tok} {b : Bool} {Q : Value → Shared → Prop} (N : News h₀ L s.heap full) (hm : (l, listOf xs.toArray n) ∈ full) (hi : StrsAre xs ns) (hb : (ns.any (· == k)) = b) (h : Q (.bool b) s) :
    wpAny (model prog w) A (compareOp .In (.str k t) (.ref l)) Q E s := in_list_strs (News.isList N hm) hi (by rw [hb]; exact h)
end
def hit (cw ws : List Str) : Bool := ws.any fun x => cw.any (· == x)
def hits (cw : List Str) (g : Nat → List Str) (n : Nat) : List Int := ((List.range n).filter fun i => hit cw (wordsOr (g i))).map fun (i : Nat) => (i : Int) + 1
theorem hits_succ (cw : List Str) (g : Nat → List Str) (n : Nat) : hits cw g (n + 1) = if hit cw (wordsOr (g n)) = true then hits cw g n ++ [(n : Int) + 1] else hits cw g n := by
  unfold hits
  rw [List.range_succ, List.filter_append]
  by_cases h : hit cw (wordsOr (g n)) = true <;> simp [h]
theorem hits_length (cw : List Str) (g : Nat → List Str) (n : Nat) : (hits cw g n).length ≤ n := by
  unfold hits
  rw [List.length_map]
  exact Nat.le_trans (List.length_filter_le _ _) (by simp)
def counted (cw : List Str) (g : Nat → List Str) (n : Nat) : List Int := if (cw.any (· == Str.ofString "All")) = true then upTo n else hits cw g n
theorem filter_ne {xs : List Value} {ws : List Str} {p : Str → Bool} (h : StrsAre xs (ws.filter p)) : (!xs.isEmpty) = ws.any p := by
  have e : ∀ {ys : List Str}, StrsAre xs ys → xs.isEmpty = ys.isEmpty := by
    intro ys h
    cases h with
    | nil => rfl
    | cons => rfl
  rw [e h]
  clear e h
  induction ws with
  | nil => rfl
  | cons a t ih =>
    by_cases hp : p a = true
    · simp [hp]
    · have hp' : p a = false := by simpa using hp
      rw [List.filter_cons_of_neg hp, List.any_cons, hp', Bool.false_or]; exact ih
theorem upTo_get (n i : Nat) (h : i < n) : (upTo n)[i]? = some ((i : Int) + 1) := by simp [upTo, h]
theorem ints_get {xs : List Value} {ns : List Int} (h : IntsAre xs ns) : ∀ {i : Nat} {v : Value}, xs[i]? = some v → ∃ k t, ns[i]? = some k ∧ v = .int k t := by
  induction h with
  | nil => intro i v e; simp at e
  | cons k t _ ih =>
    intro i v e
    cases i with
    | zero => simp at e; subst e; exact ⟨_, _, rfl, rfl⟩
    | succ i => simp at e; simpa using ih e
theorem strs_get {xs : List Value} {ns : List Str} (h : StrsAre xs ns) : ∀ {i : Nat} {v : Value}, xs[i]? = some v → ∃ k t, ns[i]? = some k ∧ v = .str k t := by
  induction h with
  | nil => intro i v e; simp at e
  | cons k t _ ih =>
    intro i v e
    cases i with
    | zero => simp at e; subst e; exact ⟨_, _, rfl, rfl⟩
    | succ i => simp at e; simpa using ih e
theorem wordsOr_length {ws : List Str} (h : ws.length ≤ 2) : (wordsOr ws).length ≤ 2 := by
  unfold wordsOr
  split
  · simp
  · exact h
theorem IntentAt.length {l : List (Addr × Obj)} {v : Value} {ws : List Str} (h : IntentAt l v ws) : ws.length ≤ 2 := by
  cases h with
  | none => simp
  | one => simp
  | list _ _ _ h => exact h
theorem wordsOr_nil : wordsOr [] = [Str.ofString "View"] := if_pos rfl
theorem wordsOr_some {ws : List Str} (h : ws ≠ []) : wordsOr ws = ws := if_neg h
theorem nm_tok {o : Obj} {x : Str} {t : Tok} {n : Nat} {P : Prop} (_ : o = listOf [Value.str x t].toArray n) (k : ∀ t' : Tok, t' = t → P) : P := k t rfl
-- part Data4
def GrpAt (w : World) (news : List (Addr × Obj)) (kvs : List (Int × Value)) (k : Int) (hv : Value) (kvh : List (Str × Value)) (nm : Array UInt8) (ws : List Str) : Prop :=
  (∃ c v₀ n, valueAt kvs k = some c ∧ Cell news c v₀ ∧ Res news kvs n v₀ hv ∧ n < 29) ∧ StrDict w news hv kvh ∧ (∃ tv, valueAt kvh (Str.ofString "Type") = some tv ∧ NameAt news tv (Str.ofString "OCG")) ∧
  (∃ sv, valueAt kvh (Str.ofString "Name") = some sv ∧ StringAt news sv nm) ∧ IntentAt news ((valueAt kvh (Str.ofString "Intent")).getD .none) ws
theorem GrpAt.sub {w : World} {l l' : List (Addr × Obj)} (hs : ∀ p ∈ l, p ∈ l') {kvs : List (Int × Value)} {hv : Value} {k : Int} {kvh : List (Str × Value)} {nm : Array UInt8} {ws : List Str} : GrpAt w l kvs k hv kvh nm ws → GrpAt w l' kvs k hv kvh nm ws :=
  fun ⟨⟨c, v₀, n, a1, a2, a3, a4⟩, d, ⟨tv, e, f⟩, ⟨sv, g, i⟩, j⟩ => ⟨⟨c, v₀, n, a1, a2.sub hs, a3.sub hs, a4⟩, d.sub hs, ⟨tv, e, f.sub hs⟩, ⟨sv, g, i.sub hs⟩, j.sub hs⟩
theorem GrpAt.gok {w : World} {l : List (Addr × Obj)} {kvs : List (Int × Value)} {v hv : Value} {k : Int} {kvh : List (Str × Value)} {nm : Array UInt8} {ws : List Str} (h : GrpAt w l kvs k hv kvh nm ws) (r : RefAt l v k) : GOk w l kvs v k hv kvh :=
  let ⟨⟨_, _, n, a1, a2, a3, a4⟩, d, t, _, _⟩ := h
  ⟨r, ⟨n + 1, .hop r a1 a2 a3, by omega⟩, d, t⟩
-- part Src2
section
variable {prog : Program} {w : World} {A : Around} {E : Value → Shared → Prop} {s s₁ : Shared} {h₀ : Heap} {L : Addr} {m : Str → Option Value} {env : Env} {ct elt : Expr} {x : Str} {scope : Scope} {cl : List (Str × Addr)} {full : List (Addr × Obj)}
theorem srcAt_list {l : Addr} {its : Array Value} (F : Fr h₀ L s.heap m) (N : News h₀ L s.heap full) (hS : LCg.SrcAt h₀ l its full) : s.heap.IsList l its := hS.list F.keep N
theorem srcAt_sub {l : Addr} {its : Array Value} {full full' : List (Addr × Obj)} (hs : ∀ p ∈ full, p ∈ full') : LCg.SrcAt h₀ l its full → LCg.SrcAt h₀ l its full'
  | .inl h => .inl h
  | .inr ⟨o, hm, r⟩ => .inr ⟨o, hs _ hm, r⟩
theorem in_S {l : Addr} {xs : List Value} {ns : List Str} {k : Str} {t : Tok} {b : Bool} {Q : Value → Shared → Prop} (F : Fr h₀ L s.heap m) (N : News h₀ L s.heap full) (hS : LCg.SrcAt h₀ l xs.toArray full) (hi : StrsAre xs ns) (hb : (ns.any (· == k)) = b) (h : Q (.bool b) s) :
    wpAny (model prog w) A (compareOp .In (.str k t) (.ref l)) Q E s := in_list_strs (srcAt_list F N hS) hi (by rw [hb]; exact h)
theorem truthy_S {l : Addr} {xs : List Value} {Q : Bool → Shared → Prop} {b : Bool} (F : Fr h₀ L s.heap m) (N : News h₀ L s.heap full) (hS : LCg.SrcAt h₀ l xs.toArray full) (hz : xs.length ≤ 1000) (hb : (!xs.isEmpty) = b) (h : ∀ tk, Q b { s with toks := tk }) :
    wpAny (model prog w) A (truthy (.ref l)) Q E s :=
  wpAny_truthy_list (items := xs.toArray) (srcAt_list F N hS) (by rw [List.size_toArray]; omega) (by rw [List.isEmpty_toArray, hb]; exact h _)
theorem compT_S {Fin : Shared → List Value → List (Addr × Obj) → Prop} {ax : Addr} {xs : List Value} {news : List (Addr × Obj)} (J : Nat → List Value → Prop)
    (hh : A.handled = none) (F : Fr h₀ L s₁.heap m) (N : News h₀ L s₁.heap news) (hS : LCg.SrcAt h₀ ax xs.toArray news) (hsz : xs.length ≤ 1000) (h0 : J 0 [])
    (turn : ∀ i v ys I oI C oC D m₂ h tk (E' : Value → Shared → Prop), xs[i]? = some v → J i ys → LCg.SrcAt h₀ ax xs.toArray news → LCg.NsObj oC m₂ → m₂ x = some v → Fr h₀ L h m → News h₀ L h ((I, oI) :: (C, oC) :: (D, LCg.lst ys) :: news) → LCg.Off3 I C D news → ((@Ne Nat I C) ∧ (@Ne Nat I D) ∧ (@Ne Nat C D)) →
      wpAny (model prog w) A (isTrue ct (compEnvC scope cl C env) (eval ct (compEnvC scope cl C env))) (fun ok s' => if ok = true then
        wpAny (model prog w) A (eval elt (compEnvC scope cl C env)) (LCg.CompEnd h₀ L m { s₁ with heap := h, toks := tk } I oI C oC D (LCg.lst ys) (LCg.SrcAt h₀ ax xs.toArray) (fun y nx' => J (i + 1) (ys ++ [y]) ∧ nx' = news)) E' s'
        else LCg.CompEnd h₀ L m { s₁ with heap := h, toks := tk } I oI C oC D (LCg.lst ys) (LCg.SrcAt h₀ ax xs.toArray) (fun _ nx' => J (i + 1) ys ∧ nx' = news) Value.none s') E' { s₁ with heap := h, toks := tk })
    (fin : ∀ g ys, J xs.length ys → Fin { s₁ with heap := g } ys news) : LCt.CompSrcT prog w A h₀ L m env ct elt x scope cl Fin (.ref ax) s₁ := by
  refine .inl ⟨ax, xs.toArray, news, rfl, hh, F, N, hS, by rw [sizeLine_eq, List.size_toArray]; omega, ?_⟩
  rintro _ ⟨g, rfl⟩
  rw [List.size_toArray]
  have all : ∀ j i ys nx, i + j = xs.length → (J i ys ∧ nx = news) → LCt.CompRestT prog w A h₀ L m env ct elt x scope cl { s₁ with heap := g } (LCg.SrcAt h₀ ax xs.toArray) (fun i v => xs.toArray[i]? = some v) (Fin { s₁ with heap := g }) j i ys nx := by
    intro j
    induction j with
    | zero =>
      rintro i ys nx hi ⟨hJ, rfl⟩
      obtain rfl : i = xs.length := by omega
      exact fin g ys hJ
    | succ j ih =>
      rintro i ys nx hi ⟨hJ, rfl⟩ v I oI C oC D m₂ h tk E' hv hC hx F' N' o3 n3
      refine wpAny_mono (turn i v ys I oI C oC D m₂ h tk E' (by simpa using hv) hJ hS hC hx F' N' o3 n3) (fun ok s' q => ?_) fun _ _ e => e
      cases ok with
      | true =>
        simp only [if_true] at q ⊢
        refine wpAny_mono q (fun y s' q => ?_) fun _ _ e => e
        obtain ⟨h', tk', nx', e, F'', N'', o', S', J'⟩ := q
        exact ⟨h', tk', nx', e, F'', N'', o', S', ih (i + 1) _ _ (by omega) J'⟩
      | false =>
        simp only [Bool.false_eq_true, if_false] at q ⊢
        obtain ⟨h', tk', nx', e, F'', N'', o', S', J'⟩ := q
        exact ⟨h', tk', nx', e, F'', N'', o', S', ih (i + 1) _ _ (by omega) J'⟩
  exact all _ 0 [] news (by omega) ⟨h0, rfl⟩
end
-- part Dcomp
section
variable {prog : Program} {w : World} {A : Around} {E : Value → Shared → Prop} {s : Shared} {h₀ : Heap} {L : Addr} {m : Str → Option Value} {env : Env}
def DKey (kvs : List (Int × Value)) (i : Nat) (v : Value) : Prop := ∃ k x t, kvs[i]? = some (k, x) ∧ v = .int k t
theorem dict_walks {kvs : List (Int × Value)} {I d : Addr} {ep : Nat} (hh : A.handled = none) (hne : d ≠ I) :
    Walks prog w A I [I, d] [I] kvs.length (DKey kvs) (fun i h => h.IsKeyIter I d i kvs.length ep ∧ h.DictAt (PySem.intKind prog w) d kvs ep) :=
  let W := Walks.dictKeys (knd := PySem.intKind prog w) hh I d hne kvs ep
  { sub := W.sub, frame := W.frame, done := W.done, self := W.self,
    item := fun i s Q E hi st hQ => W.item i s Q E hi st fun v h' tk hP => hQ v h' tk (by
      obtain ⟨k, x, e, hk⟩ := hP
      obtain ⟨t, rfl⟩ := Value.isInt_shape hk
      exact ⟨k, x, t, e, rfl⟩) }
theorem dict_st {kvs : List (Int × Value)} {I d : Addr} {ep : Nat} {o : Obj} {es : Array DictEntry} (hc : o.ExactDict) (hd : o.data = .dict es ep) (hk : KeysOf (PySem.intKind prog w) es) (hp : Pairs (PySem.intKind prog w) es.toList kvs) (hn : (kvs.map (·.1)).Nodup) :
    ∀ i (h h' : Heap) (oI : Obj) (nw : List (Addr × Obj)), (h.IsKeyIter I d i kvs.length ep ∧ h.DictAt (PySem.intKind prog w) d kvs ep) → h.get? I = some oI → h'.get? I = some oI → (∀ b o, h₀.get? b = some o → h'.get? b = some o) → News h₀ L h' nw → (d, o) ∈ nw → (h'.IsKeyIter I d i kvs.length ep ∧ h'.DictAt (PySem.intKind prog w) d kvs ep) :=
  fun i h h' oI nw st e e' k N S => ⟨by obtain ⟨o', q, r⟩ := st.1; rw [e] at q; cases q; exact ⟨oI, e', r⟩, ⟨o, es, (N _ S).1, hc, hd, hk, hp, hn⟩⟩
def DSrc (prog : Program) (w : World) (A : Around) (h₀ : Heap) (L : Addr) (m : Str → Option Value) (R : Shared → List (Int × Value) → Addr → Obj → List (Addr × Obj) → Prop) (xv : Value) (s₁ : Shared) : Prop :=
  ∃ d o kvs news, xv = .ref d ∧ A.handled = none ∧ (d == sysModules) = false ∧ Fr h₀ L s₁.heap m ∧ News h₀ L s₁.heap news ∧ (d, o) ∈ news ∧ o.IsDictOf (PySem.intKind prog w) kvs ∧ kvs.length ≤ 1000 ∧ ∀ s₂ : Shared, (∃ h, s₂ = { s₁ with heap := h }) → R s₂ kvs d o news
def RU (prog : Program) (w : World) (A : Around) (h₀ : Heap) (L : Addr) (m : Str → Option Value) (env : Env) (elt : Expr) (x : Str) (scope : Scope) (cl : List (Str × Addr)) (Fin : Shared → List Value → List (Addr × Obj) → Prop) (s₂ : Shared) (kvs : List (Int × Value)) (d : Addr) (o : Obj) (news : List (Addr × Obj)) : Prop :=
  LCg.CompRest prog w A h₀ L m env elt x scope cl s₂ (fun nx => (d, o) ∈ nx) (DKey kvs) (Fin s₂) kvs.length 0 [] news
def RT (prog : Program) (w : World) (A : Around) (h₀ : Heap) (L : Addr) (m : Str → Option Value) (env : Env) (ct elt : Expr) (x : Str) (scope : Scope) (cl : List (Str × Addr)) (Fin : Shared → List Value → List (Addr × Obj) → Prop) (s₂ : Shared) (kvs : List (Int × Value)) (d : Addr) (o : Obj) (news : List (Addr × Obj)) : Prop :=
  LCt.CompRestT prog w A h₀ L m env ct elt x scope cl s₂ (fun nx => (d, o) ∈ nx) (DKey kvs) (Fin s₂) kvs.length 0 [] news
theorem comp_UD {elt iter : Expr} {x : Str} {px : Pos} {scope : Scope} {cl : List (Str × Addr)} {pos : Pos} {Q : Value → Shared → Prop} (F₀ : Fr h₀ L s.heap m)
    (hclos : closureFor scope env = pure cl) (hcell : ∀ y ∈ scope.names, y.2 ≠ .cell) (hkind : scope.kind = .function)
    (hnames : ∀ y ∈ scope.names, y.2 = .local → scope.names.lookup y.1 = some .local) (hx : scope.names.lookup x = some .local)
    (h : wpAny (model prog w) A (eval iter env) (DSrc prog w A h₀ L m (RU prog w A h₀ L m env elt x scope cl (fun s₂ => LCg.FinE h₀ L m s₂ Q))) E s)
    (hs : ∀ x, foldedSetIterable iter env x = pure x := by intro _; rfl) :
    wpAny (model prog w) A (eval (.ListComp elt [⟨.Name x px, iter, [], 0⟩] scope pos) env) Q E s := by
  rw [eval_ListComp]
  refine wpAny_comprehension_free (use := none) rfl hs hclos hkind hnames (wpAny_mono h (fun xv s₁ h₁ => ?_) fun _ _ e => e)
  obtain ⟨d, o, kvs, news, rfl, hh, lo, F, N, hm, hD, hsz, R⟩ := h₁
  obtain ⟨es, ep, hc, hd, hk, hp, hn⟩ := hD
  have hlt : d < s₁.heap.objs.size := Heap.lt_size (N _ hm).1
  have hat : s₁.heap.DictAt (PySem.intKind prog w) d kvs ep := ⟨o, es, (N _ hm).1, hc, hd, hk, hp, hn⟩
  refine wpAny_pyIter_dict lo hat ?_
  refine LCg.block_U (dict_walks hh (Nat.ne_of_lt hlt)) (by rw [sizeLine_eq]; omega) (fun i h st => by obtain ⟨o, e, _⟩ := st.1; exact ⟨o, e⟩) (dict_st hc hd hk hp hn) hcell hkind hx ⟨⟨_, Heap.get?_push_size _ rfl, rfl, rfl⟩, hat.push _⟩ (fun b hb => ?_)
    (F.keeps fun _ _ e => Heap.get?_push_of_some _ e) (N.grown fun _ _ e => Heap.get?_push_of_some _ e) (Nat.ne_of_lt F.ns.lt) (next_is_new F) (fun p hp => Nat.ne_of_lt (Heap.lt_size (N p hp).1)) hm (R _ ⟨_, rfl⟩) ?_
  · show b < (s₁.heap.push _).objs.size
    rw [Heap.size_push]
    rcases List.mem_cons.mp hb with rfl | hb
    · exact Nat.lt_succ_self _
    · rw [List.mem_singleton.mp hb]; exact Nat.lt_succ_of_lt hlt
  · intro D C h tk m' ys news' F' N' o1 hn hC₀ hD₀ hCL hDL hCD offC fin
    refine ⟨m', hn, fun h'' hs'' => fin D h'' tk (F'.change hs'' hCL hC₀) (fun p hp => ?_) o1⟩
    refine ⟨hs''.extBut _ _ ?_ (N' p hp).1, (N' p hp).2⟩
    rcases List.mem_cons.mp hp with rfl | hp
    · exact Ne.symm hCD
    · exact offC p hp
theorem assign_UD {elt iter : Expr} {x y : Str} {px py : Pos} {scope : Scope} {cl : List (Str × Addr)} {pos spos : Pos} {Q : Flow → Shared → Prop} (F₀ : Fr h₀ L s.heap m) (hLe : env.locals = L)
    (hsw : swapsWith (.ListComp elt [⟨.Name x px, iter, [], 0⟩] scope pos) (some (.Name y py)) spos.line env = pure true)
    (hclos : closureFor scope env = pure cl) (hcell : ∀ z ∈ scope.names, z.2 ≠ .cell) (hkind : scope.kind = .function)
    (hnames : ∀ z ∈ scope.names, z.2 = .local → scope.names.lookup z.1 = some .local) (hx : scope.names.lookup x = some .local)
    (hy : env.kindOf y = some .local) (hp : (env.scope.kind == .class || (env.scope.kind == .module && env.locals != env.globals)) = false)
    (h : wpAny (model prog w) A (eval iter env) (DSrc prog w A h₀ L m (RU prog w A h₀ L m env elt x scope cl (fun s₂ => LCg.FinA h₀ L m s₂ y Q))) E s)
    (hs : ∀ x, foldedSetIterable iter env x = pure x := by intro _; rfl) :
    wpAny (model prog w) A (exec (.Assign [.Name y py] (.ListComp elt [⟨.Name x px, iter, [], 0⟩] scope pos) spos) env) Q E s := by
  subst hLe
  rw [exec_Assign_Name_used _ _ _ _ hsw]
  refine wpAny_bind (wpAny_standAt (wpAny_bind ?_))
  show wpAny _ A (do let _ ← comprehension (.ListComp elt [⟨.Name x px, iter, [], 0⟩] scope pos) scope env _ (newList []) false (eval iter env) (some (assign (.Name y py) env))) _ _ s
  refine wpAny_bind (wpAny_mono (wpAny_comprehension_free (use := some (assign (.Name y py) env)) (Q := fun _ s' => Q .next s') rfl hs hclos hkind hnames
    (wpAny_mono h (fun xv s₁ h₁ => ?_) fun _ _ e => e)) (fun _ s' hq => wpAny_pure (wpAny_pure hq)) fun _ _ e => e)
  obtain ⟨d, o, kvs, news, rfl, hh, lo, F, N, hm, hD, hsz, R⟩ := h₁
  obtain ⟨es, ep, hc, hd, hk, hpr, hn⟩ := hD
  have hlt : d < s₁.heap.objs.size := Heap.lt_size (N _ hm).1
  have hat : s₁.heap.DictAt (PySem.intKind prog w) d kvs ep := ⟨o, es, (N _ hm).1, hc, hd, hk, hpr, hn⟩
  refine wpAny_pyIter_dict lo hat ?_
  refine LCg.block_U (dict_walks hh (Nat.ne_of_lt hlt)) (by rw [sizeLine_eq]; omega) (fun i h st => by obtain ⟨o, e, _⟩ := st.1; exact ⟨o, e⟩) (dict_st hc hd hk hpr hn) hcell hkind hx ⟨⟨_, Heap.get?_push_size _ rfl, rfl, rfl⟩, hat.push _⟩ (fun b hb => ?_)
    (F.keeps fun _ _ e => Heap.get?_push_of_some _ e) (N.grown fun _ _ e => Heap.get?_push_of_some _ e) (Nat.ne_of_lt F.ns.lt) (next_is_new F) (fun p hp => Nat.ne_of_lt (Heap.lt_size (N p hp).1)) hm (R _ ⟨_, rfl⟩) ?_
  · show b < (s₁.heap.push _).objs.size
    rw [Heap.size_push]
    rcases List.mem_cons.mp hb with rfl | hb
    · exact Nat.lt_succ_self _
    · rw [List.mem_singleton.mp hb]; exact Nat.lt_succ_of_lt hlt
  · intro D C h' tk m' ys news' F' N' o1 hn hC₀ hD₀ hCL hDL hCD offC fin
    show wpAny _ A (assign (.Name y py) env (.ref D)) _ _ _
    refine wpAny_assign_Name (wpAny_storeName_local hy F'.ns (fun h₂ hn₂ hs₂ => ?_) hp)
    have hL₀ : h₀.get? env.locals = none := Heap.get?_none_of_le F'.above
    have F₂ : Fr h₀ env.locals h₂ (fun z => if z = y then some (.ref D) else m z) := ⟨hn₂, fun b o e => hs₂.extBut b o (fun q => by rw [q, hL₀] at e; cases e) (F'.keep b o e), F'.above⟩
    refine ⟨m', hn.sameBut hs₂ hCL, fun h'' hs'' => fin D h'' _ (F₂.change hs'' hCL hC₀) (fun p hp => ?_) o1⟩
    have z : h₂.get? p.1 = some p.2 := hs₂.extBut _ _ (N' p hp).2.1 (N' p hp).1
    refine ⟨hs''.extBut _ _ ?_ z, (N' p hp).2⟩
    rcases List.mem_cons.mp hp with rfl | hp
    · exact Ne.symm hCD
    · exact offC p hp
theorem assign_TD {ct elt iter : Expr} {x y : Str} {px py : Pos} {scope : Scope} {cl : List (Str × Addr)} {pos spos : Pos} {Q : Flow → Shared → Prop} (F₀ : Fr h₀ L s.heap m) (hLe : env.locals = L)
    (hsw : swapsWith (.ListComp elt [⟨.Name x px, iter, [ct], 0⟩] scope pos) (some (.Name y py)) spos.line env = pure true)
    (hclos : closureFor scope env = pure cl) (hcell : ∀ z ∈ scope.names, z.2 ≠ .cell) (hkind : scope.kind = .function)
    (hnames : ∀ z ∈ scope.names, z.2 = .local → scope.names.lookup z.1 = some .local) (hx : scope.names.lookup x = some .local)
    (hy : env.kindOf y = some .local) (hp : (env.scope.kind == .class || (env.scope.kind == .module && env.locals != env.globals)) = false)
    (h : wpAny (model prog w) A (eval iter env) (DSrc prog w A h₀ L m (RT prog w A h₀ L m env ct elt x scope cl (fun s₂ => LCg.FinA h₀ L m s₂ y Q))) E s)
    (hs : ∀ x, foldedSetIterable iter env x = pure x := by intro _; rfl) :
    wpAny (model prog w) A (exec (.Assign [.Name y py] (.ListComp elt [⟨.Name x px, iter, [ct], 0⟩] scope pos) spos) env) Q E s := by
  subst hLe
  rw [exec_Assign_Name_used _ _ _ _ hsw]
  refine wpAny_bind (wpAny_standAt (wpAny_bind ?_))
  show wpAny _ A (do let _ ← comprehension (.ListComp elt [⟨.Name x px, iter, [ct], 0⟩] scope pos) scope env _ (newList []) false (eval iter env) (some (assign (.Name y py) env))) _ _ s
  refine wpAny_bind (wpAny_mono (wpAny_comprehension_free (use := some (assign (.Name y py) env)) (Q := fun _ s' => Q .next s') rfl hs hclos hkind hnames
    (wpAny_mono h (fun xv s₁ h₁ => ?_) fun _ _ e => e)) (fun _ s' hq => wpAny_pure (wpAny_pure hq)) fun _ _ e => e)
  obtain ⟨d, o, kvs, news, rfl, hh, lo, F, N, hm, hD, hsz, R⟩ := h₁
  obtain ⟨es, ep, hc, hd, hk, hpr, hn⟩ := hD
  have hlt : d < s₁.heap.objs.size := Heap.lt_size (N _ hm).1
  have hat : s₁.heap.DictAt (PySem.intKind prog w) d kvs ep := ⟨o, es, (N _ hm).1, hc, hd, hk, hpr, hn⟩
  refine wpAny_pyIter_dict lo hat ?_
  refine LCt.block_T (dict_walks hh (Nat.ne_of_lt hlt)) (by rw [sizeLine_eq]; omega) (fun i h st => by obtain ⟨o, e, _⟩ := st.1; exact ⟨o, e⟩) (dict_st hc hd hk hpr hn) hcell hkind hx ⟨⟨_, Heap.get?_push_size _ rfl, rfl, rfl⟩, hat.push _⟩ (fun b hb => ?_)
    (F.keeps fun _ _ e => Heap.get?_push_of_some _ e) (N.grown fun _ _ e => Heap.get?_push_of_some _ e) (Nat.ne_of_lt F.ns.lt) (next_is_new F) (fun p hp => Nat.ne_of_lt (Heap.lt_size (N p hp).1)) hm (R _ ⟨_, rfl⟩) ?_
  · show b < (s₁.heap.push _).objs.size
    rw [Heap.size_push]
    rcases List.mem_cons.mp hb with rfl | hb
    · exact Nat.lt_succ_self _
    · rw [List.mem_singleton.mp hb]; exact Nat.lt_succ_of_lt hlt
  · intro D C h' tk m' ys news' F' N' o1 hn hC₀ hD₀ hCL hDL hCD offC fin
    show wpAny _ A (assign (.Name y py) env (.ref D)) _ _ _
    refine wpAny_assign_Name (wpAny_storeName_local hy F'.ns (fun h₂ hn₂ hs₂ => ?_) hp)
    have hL₀ : h₀.get? env.locals = none := Heap.get?_none_of_le F'.above
    have F₂ : Fr h₀ env.locals h₂ (fun z => if z = y then some (.ref D) else m z) := ⟨hn₂, fun b o e => hs₂.extBut b o (fun q => by rw [q, hL₀] at e; cases e) (F'.keep b o e), F'.above⟩
    refine ⟨m', hn.sameBut hs₂ hCL, fun h'' hs'' => fin D h'' _ (F₂.change hs'' hCL hC₀) (fun p hp => ?_) o1⟩
    have z : h₂.get? p.1 = some p.2 := hs₂.extBut _ _ (N' p hp).2.1 (N' p hp).1
    refine ⟨hs''.extBut _ _ ?_ z, (N' p hp).2⟩
    rcases List.mem_cons.mp hp with rfl | hp
    · exact Ne.symm hCD
    · exact offC p hp
variable {ct elt : Expr} {x : Str} {scope : Scope} {cl : List (Str × Addr)}
theorem srcU_D {Fin : Shared → List Value → List (Addr × Obj) → Prop} {s₁ : Shared} {d : Addr} {o : Obj} {kvs : List (Int × Value)} {news : List (Addr × Obj)} (J : Nat → List Value → List (Addr × Obj) → Prop)
    (hh : A.handled = none) (lo : (d == sysModules) = false) (F : Fr h₀ L s₁.heap m) (N : News h₀ L s₁.heap news) (hm : (d, o) ∈ news) (hD : o.IsDictOf (PySem.intKind prog w) kvs) (hsz : kvs.length ≤ 1000) (h0 : J 0 [] news)
    (turn : ∀ i k v t ys nx I oI C oC D m₂ h tk (E' : Value → Shared → Prop), kvs[i]? = some (k, v) → J i ys nx → LCg.NsObj oC m₂ → m₂ x = some (.int k t) → Fr h₀ L h m → News h₀ L h ((I, oI) :: (C, oC) :: (D, LCg.lst ys) :: nx) → LCg.Off3 I C D nx → ((@Ne Nat I C) ∧ (@Ne Nat I D) ∧ (@Ne Nat C D)) →
      wpAny (model prog w) A (eval elt (compEnvC scope cl C env)) (LCg.CompEnd h₀ L m { s₁ with heap := h, toks := tk } I oI C oC D (LCg.lst ys) (fun nx => (d, o) ∈ nx) (fun y nx' => J (i + 1) (ys ++ [y]) nx')) E' { s₁ with heap := h, toks := tk })
    (fin : ∀ g ys nx, J kvs.length ys nx → Fin { s₁ with heap := g } ys nx) : DSrc prog w A h₀ L m (RU prog w A h₀ L m env elt x scope cl Fin) (.ref d) s₁ := by
  refine ⟨d, o, kvs, news, rfl, hh, lo, F, N, hm, hD, hsz, ?_⟩
  rintro _ ⟨g, rfl⟩
  have all : ∀ j i ys nx, i + j = kvs.length → J i ys nx → LCg.CompRest prog w A h₀ L m env elt x scope cl { s₁ with heap := g } (fun nx => (d, o) ∈ nx) (DKey kvs) (Fin { s₁ with heap := g }) j i ys nx := by
    intro j
    induction j with
    | zero =>
      intro i ys nx hi hJ
      obtain rfl : i = kvs.length := by omega
      exact fin g ys nx hJ
    | succ j ih =>
      rintro i ys nx hi hJ v I oI C oC D m₂ h tk E' ⟨k, xv, t, hv, rfl⟩ hC hx F' N' o3 n3
      refine wpAny_mono (turn i k xv t ys nx I oI C oC D m₂ h tk E' hv hJ hC hx F' N' o3 n3) (fun y s' q => ?_) fun _ _ e => e
      obtain ⟨h', tk', nx', e, F'', N'', o', S', J'⟩ := q
      exact ⟨h', tk', nx', e, F'', N'', o', S', ih (i + 1) _ _ (by omega) J'⟩
  exact all _ 0 [] news (by omega) h0
theorem srcT_D {Fin : Shared → List Value → List (Addr × Obj) → Prop} {s₁ : Shared} {d : Addr} {o : Obj} {kvs : List (Int × Value)} {news : List (Addr × Obj)} (J : Nat → List Value → List (Addr × Obj) → Prop)
    (hh : A.handled = none) (lo : (d == sysModules) = false) (F : Fr h₀ L s₁.heap m) (N : News h₀ L s₁.heap news) (hm : (d, o) ∈ news) (hD : o.IsDictOf (PySem.intKind prog w) kvs) (hsz : kvs.length ≤ 1000) (h0 : J 0 [] news)
    (turn : ∀ i k v t ys nx I oI C oC D m₂ h tk (E' : Value → Shared → Prop), kvs[i]? = some (k, v) → J i ys nx → LCg.NsObj oC m₂ → m₂ x = some (.int k t) → Fr h₀ L h m → News h₀ L h ((I, oI) :: (C, oC) :: (D, LCg.lst ys) :: nx) → LCg.Off3 I C D nx → ((@Ne Nat I C) ∧ (@Ne Nat I D) ∧ (@Ne Nat C D)) →
      wpAny (model prog w) A (isTrue ct (compEnvC scope cl C env) (eval ct (compEnvC scope cl C env))) (fun ok s' => if ok = true then
        wpAny (model prog w) A (eval elt (compEnvC scope cl C env)) (LCg.CompEnd h₀ L m { s₁ with heap := h, toks := tk } I oI C oC D (LCg.lst ys) (fun nx => (d, o) ∈ nx) (fun y nx' => J (i + 1) (ys ++ [y]) nx')) E' s'
        else LCg.CompEnd h₀ L m { s₁ with heap := h, toks := tk } I oI C oC D (LCg.lst ys) (fun nx => (d, o) ∈ nx) (fun _ nx' => J (i + 1) ys nx') Value.none s') E' { s₁ with heap := h, toks := tk })
    (fin : ∀ g ys nx, J kvs.length ys nx → Fin { s₁ with heap := g } ys nx) : DSrc prog w A h₀ L m (RT prog w A h₀ L m env ct elt x scope cl Fin) (.ref d) s₁ := by
  refine ⟨d, o, kvs, news, rfl, hh, lo, F, N, hm, hD, hsz, ?_⟩
  rintro _ ⟨g, rfl⟩
  have all : ∀ j i ys nx, i + j = kvs.length → J i ys nx → LCt.CompRestT prog w A h₀ L m env ct elt x scope cl { s₁ with heap := g } (fun nx => (d, o) ∈ nx) (DKey kvs) (Fin { s₁ with heap := g }) j i ys nx := by
    intro j
    induction j with
    | zero =>
      intro i ys nx hi hJ
      obtain rfl : i = kvs.length := by omega
      exact fin g ys nx hJ
    | succ j ih =>
      rintro i ys nx hi hJ v I oI C oC D m₂ h tk E' ⟨k, xv, t, hv, rfl⟩ hC hx F' N' o3 n3
      refine wpAny_mono (turn i k xv t ys nx I oI C oC D m₂ h tk E' hv hJ hC hx F' N' o3 n3) (fun ok s' q => ?_) fun _ _ e => e
      cases ok with
      | true =>
        simp only [if_true] at q ⊢
        refine wpAny_mono q (fun y s' q => ?_) fun _ _ e => e
        obtain ⟨h', tk', nx', e, F'', N'', o', S', J'⟩ := q
        exact ⟨h', tk', nx', e, F'', N'', o', S', ih (i + 1) _ _ (by omega) J'⟩
      | false =>
        simp only [Bool.false_eq_true, if_false] at q ⊢
        obtain ⟨h', tk', nx', e, F'', N'', o', S', J'⟩ := q
        exact ⟨h', tk', nx', e, F'', N'', o', S', ih (i + 1) _ _ (by omega) J'⟩
  exact all _ 0 [] news (by omega) h0
end
theorem ne_lt1 {a x b : Nat} {ob : Obj} {l : List (Addr × Obj)} (h : a < x ∧ AllLt x l) (hm : (b, ob) ∈ l) : x ≠ b := Nat.ne_of_gt (allLt_mem h.2 _ hm)
-- part Eqd
noncomputable def dok : Nat → Dat → Bool
  | 0, .tuple _ => false
  | 0, .list _ => false
  | n + 1, .tuple ds => ds.all (dok n)
  | _, .list _ => false
  | _, _ => true
theorem eq_bytes_at {A : Around} {s : Shared} (a : Array UInt8) (t u : Tok) : PySem.SeqAt.EqAt A s (.bytes a t) (.bytes a u) true := fun prog w E Q h => by
  unfold eqBool
  refine wpAny_holding ?_
  refine wpAny_ite_split (fun _ => wpAny_bind (wpAny_rule (wpAny_pure h))) (fun _ => ?_)
  exact wpAny_bind (show wpAny (model prog w) A (compareOp .Eq (.bytes a t) (.bytes a u)) _ E s from eq_bytes (by rw [beq_self_eq_true]; exact wpAny_truthy_bool h))
theorem datAll_at {news : List (Addr × Obj)} {vs : List Value} {ds : List Dat} (h : DatAll news vs ds) : ∀ {j : Nat} {v : Value}, vs[j]? = some v → ∃ d, ds[j]? = some d ∧ d ∈ ds ∧ DatIn news v d := by
  induction vs generalizing ds with
  | nil => intro j v e; simp at e
  | cons x xs ih =>
    cases h with
    | cons a r =>
      intro j v e
      cases j with
      | zero => simp at e; subst e; exact ⟨_, rfl, List.mem_cons_self, a⟩
      | succ j =>
        simp at e
        obtain ⟨d, e1, e2, e3⟩ := ih r e
        exact ⟨d, by simpa using e1, List.mem_cons_of_mem _ e2, e3⟩
theorem all_true (n : Nat) : (List.range n).all (fun _ => true) = true := by simp
theorem eq_dat {h₀ : Heap} {L : Addr} {news : List (Addr × Obj)} : ∀ (n : Nat) (d : Dat) (A : Around) (s : Shared) (a b : Value), dok n d = true → DatIn news a d → DatIn news b d → News h₀ L s.heap news → A.units + n < cLine → PySem.SeqAt.EqAt A s a b true := by
  have atom : ∀ (d : Dat) (A : Around) (s : Shared) (a b : Value), (∀ ds, d ≠ .tuple ds) → (∀ ds, d ≠ .list ds) → DatIn news a d → DatIn news b d → PySem.SeqAt.EqAt A s a b true := by
    intro d A s a b ht hl ha hb
    cases ha with
    | none => cases hb; exact PySem.SeqAt.EqAt.same _
    | bool x => cases hb; exact PySem.SeqAt.EqAt.same _
    | int i t =>
      cases hb with
      | int _ u => have h := PySem.SeqAt.EqAt.int_int (A := A) (s := s) i t i u; rw [beq_self_eq_true] at h; exact h
    | str x t =>
      cases hb with
      | str _ u => have h := PySem.SeqAt.EqAt.str_str (A := A) (s := s) x t x u; rw [beq_self_eq_true] at h; exact h
    | bytes x t =>
      cases hb with
      | bytes _ u => exact eq_bytes_at x t u
    | tuple => exact absurd rfl (ht _)
    | list => exact absurd rfl (hl _)
  intro n
  induction n with
  | zero =>
    intro d A s a b hd ha hb _ _
    refine atom d A s a b (fun ds e => ?_) (fun ds e => ?_) ha hb
    · subst e; cases hd
    · subst e; cases hd
  | succ n ih =>
    intro d A s a b hd ha hb N hu
    by_cases ht : ∃ ds, d = .tuple ds
    · obtain ⟨ds, rfl⟩ := ht
      cases ha with
      | tuple ma ra =>
        cases hb with
        | tuple mb rb =>
          rename_i la va na lb vb nb
          by_cases hab : la = lb
          · subst hab; exact PySem.SeqAt.EqAt.same _
          · have e1 : va.length = vb.length := by rw [ra.length, rb.length]
            have h := PySem.SeqAt.RcAt.tuples (A := A) (e := fun _ => true) (l := la) (b := lb) (items := va.toArray) (items2 := vb.toArray) ⟨_, (N _ ma).1, rfl, _, rfl⟩ ⟨_, (N _ mb).1, rfl, _, rfl⟩ (by omega) (fun j h1 h2 => by
              have k1 : va[j]? = some (va.toArray[j]) := by simp at h1; simp [h1]
              have k2 : vb[j]? = some (vb.toArray[j]) := by simp at h2; simp [h2]
              obtain ⟨d1, q1, q2, q3⟩ := datAll_at ra k1
              obtain ⟨d2, q4, _, q6⟩ := datAll_at rb k2
              rw [q1] at q4; cases q4
              have hd' : dok n d1 = true := List.all_eq_true.mp hd _ q2
              exact ih d1 A.in1 s _ _ hd' q3 q6 N (by rw [units_in1]; omega))
            rw [all_true] at h
            simp only [List.size_toArray, e1, Bool.true_and, beq_self_eq_true] at h
            exact PySem.SeqAt.EqAt.of_refs hab h
    · refine atom d A s a b (fun ds e => ht ⟨ds, e⟩) (fun ds e => ?_) ha hb
      subst e; cases hd
section
local macro_rules | `(tactic| walk_at "ite") => `(tactic| (k_closed; k_dflt (first | (refine ite_pos ?zc7 ?_; (case zc7 => exact of_decide_eq_true (by kernel_rfl!))) | (refine ite_neg ?zc7 ?_; (case zc7 => exact of_decide_eq_false (by kernel_rfl!))))))
local macro_rules | `(tactic| walk_at "newList") => `(tactic| (k_here; k_dflt (refine' newList_K ?zk1 ?zk2 ?_ ?zk3; (case zk1 => k_asm); (case zk2 => k_asm); (case zk3 => (rw [sizeLine_eq]; exact Nat.le_of_ble_eq_true rfl)); k_whole); intro l' h' F' N' l1; (try k_lt l1); (try k_sweep)))
local macro_rules | `(tactic| walk_at "callWith") => `(tactic| first | with_reducible refine callWith_method0 ?_ | (with_reducible refine' PyProof.Rows.callWith_builtin1 ?_ ?zh1 ?zh2; (case zh1 => k_dflt (exact rfl)); (case zh2 => k_dflt (exact rfl))) | (with_reducible refine' PyProof.Rows.callWith_method1 ?_ ?zh1 ?zh2; (case zh1 => k_dflt (exact rfl)); (case zh2 => k_dflt (exact rfl))))
set_option hygiene false in
local macro_rules | `(tactic| walk_at "pyIter ref") => `(tactic| (refine held ?_))
set_option hygiene false in
local macro_rules | `(tactic| walk_at "call builtin:isinstance") => `(tactic| k_extra "isi!")
set_option hygiene false in
local macro_rules | `(tactic| walk_at "call builtin:dict.get") => `(tactic| k_extra "dictget!")
set_option hygiene false in
local macro_rules | `(tactic| walk_at "getMethod ref") => `(tactic| k_extra "method!")
local macro_rules | `(tactic| ktr_room) => `(tactic| first | (with_reducible refine' room1 ?zh ?zk; (case zh => with_reducible assumption); (case zk => k_dflt (exact rfl))) | (with_reducible refine' room0 ?zh; (case zh => with_reducible assumption)) | (with_reducible refine' roomE 1 ?zh ?ze ?zk; (case zh => with_reducible assumption); (case ze => k_dflt (exact rfl)); (case zk => k_dflt (exact rfl))) | (with_reducible refine' roomE 2 ?zh ?ze ?zk; (case zh => with_reducible assumption); (case ze => k_dflt (exact rfl)); (case zk => k_dflt (exact rfl))) | (with_reducible refine' roomE 3 ?zh ?ze ?zk; (case zh => with_reducible assumption); (case ze => k_dflt (exact rfl)); (case zk => k_dflt (exact rfl))))
local macro_rules | `(tactic| ktr_units) => `(tactic| first | (with_reducible refine' units1 ?zh ?zk; (case zh => with_reducible assumption); (case zk => k_dflt (exact rfl))) | (with_reducible refine' unitsE ?zh ?ze ?zk; (case zh => with_reducible assumption); (case ze => k_dflt (exact rfl)); (case zk => k_dflt (exact rfl))))
set_option hygiene false in
local macro_rules | `(tactic| k_in) => `(tactic| first | with_reducible assumption | exact Frag.In.keeps (by k_asm) (Fr.keep (by k_asm)))
set_option hygiene false in
local macro_rules | `(tactic| k_steps) => `(tactic| repeat' (first | (k_unfold; (try dsimp only)) | (k_end; wrow_close) | (first | ((fail_if_success (fail_if_success k_fold)); refine (let zq7 := _; (?_ : wpAny _ _ _ zq7 _ _))) | ((fail_if_success (goal_lacks PySem.Shared.mk)); (fail_if_success k_fold); refine (let zs7 : Shared := _; (?_ : wpAny _ _ _ _ _ zs7))) | ((fail_if_success (goal_lacks PySem.leaving)); (fail_if_success k_fold); (fail_if_success (with_reducible show wpAny _ _ (PySem.leaving _ _) _ _ _)); refine (let zx7 := _; (?_ : wpAny _ _ _ _ zx7 _))) | ((with_reducible show wpAny _ _ (PySem.execs _ _) _ _ _); (rename Fr _ _ _ _ => zF7); revert zF7; (fail_if_success (goal_lacks ite)); refine foldM ?_; intro zm7 zF7)) | walk1 | (dsimp only [List.cons_append, List.nil_append]; walk1) | (leave1; (try dsimp only)) | fail "no step"))
section
set_option hygiene false in
local macro_rules | `(tactic| k_mem) => `(tactic| first | assumption | exact List.Mem.head _ | (refine List.mem_cons_of_mem _ ?_; k_mem) | (refine List.mem_append_right _ ?_; k_mem) | (refine List.mem_append_left _ ?_; k_mem))
-- part Fetch
theorem fetch_ok (w : World) (news : List (Addr × Obj)) (kvs : List (Int × Value)) (sh tr : Addr) (v r t : Value) (n : Nat) (hsh : ShelfAt w news sh tr kvs) (hR : Res news kvs n v r) (hn : n < 30) (hkd : Knd w news r t) (hno : NoRef w t) :
   Ctr w 313 1 [.ref sh, v] news (fun r' n' => r = r' ∧ news = n') := by
  unfold Ctr
  k_fill
  k_with_none
  obtain ⟨dsh, T, h1, k1, h2, k2, c, oT, m1, m2, m3, hD, lo⟩ := hsh
  intros; rename_i hret
  refine (let A9 : Around := _; (?_ : wpAny _ A9 _ _ _ _))
  refine wpAny_call ?_
  k_dflt cell_enter
  refine (let e9 : Env := _; (?_ : wpAny _ (Around.deeper _ e9) (execs _ e9) _ _ _))
  refine (let B9 : Around := _; (?_ : wpAny _ B9 _ _ _ _))
  (rename Fr _ _ _ _ => lF)
  replace lF := fr_fold [(Str.ofString "self", .ref sh), (Str.ofString "value", v)] lF (by refine List.forall_mem_cons.mpr ⟨rfl, List.forall_mem_cons.mpr ⟨rfl, List.forall_mem_nil _⟩⟩)
  obtain ⟨u, lF⟩ := lF
  dsimp only [kstB] at lF
  k_with_none
  k_steps
  unfold Held
  (rename Fr _ _ _ _ => lF); (rename News _ _ _ _ => lN)
  with_unfolding_all refine' range_rule (n := 30) (ps₀ := [(Str.ofString "self", .ref sh), (Str.ofString "here", v)]) (fun i ps nx => news = nx ∧ ∃ n v', n + i < 30 ∧ Res news kvs n v' r ∧ [(Str.ofString "self", .ref sh), (Str.ofString "here", v')] = ps) (by rfl) (by assumption) (by rfl) (by rfl) lF lN ?ps ⟨rfl, n, v, by omega, hR, rfl⟩ ?turn ?done
  case ps => exact (List.forall_mem_cons.mpr ⟨rfl, List.forall_mem_cons.mpr ⟨rfl, List.forall_mem_nil _⟩⟩)
  case done =>
    intro ps nx u h tk hJ hc' F N
    obtain ⟨_, n', v', hn', _⟩ := hJ
    exfalso; omega
  clear lF lN
  intro i t' ps nx u h tk own hi hJ hc' hoff F N
  obtain ⟨e1, n', v', hn', hR', e2⟩ := hJ
  subst e1; subst e2
  dsimp only [kstB, envOf] at F N hoff
  rcases hR'.inv with ⟨e3, e4⟩ | ⟨n'', k, c', v'', e3, hv, hc, hcell, hR''⟩
  · subst e3; subst e4
    k_with "isi!" => (refine' Knd.isi ?k ?N ?X hno ?_; (case N => k_asm); (case k => exact Knd.sub hkd (fun p hp => List.mem_append_right _ hp)); (case X => k_in); k_whole; intro tk')
    k_steps
    dsimp only [TurnPost]
    k_steps
    exact hret _ _ _ _ (by k_asm) (cb_drop (by k_asm) (fun p hp => List.mem_append_right _ hp)) ⟨rfl, rfl⟩
  · k_with_none
    obtain ⟨x, dx, a1, a2, a3, a4, a5, a6, a7, e1, m4, m5⟩ := hv
    subst e1
    obtain ⟨tp, b1, b2, e2, m6⟩ := hcell
    subst e2
    k_with "dictget!" => (refine' kdg_get2 (knd := PySem.intKind _ _) ?N ?m hD lo (intKind_is _ _ _ _) (some (.ref tp)) hc ?_; (case N => k_asm); (case m => k_mem); dsimp only [Option.getD])
    k_with "method!" => (refine' kdg_method (knd := PySem.intKind _ _) ?N ?m hD ?_; (case N => k_asm); (case m => k_mem))
    k_steps
    refine TurnPost.next (by k_asm) (by k_asm) (fun p hp => List.mem_cons_of_mem _ hp) Itc.refl (ps' := [(Str.ofString "self", .ref sh), (Str.ofString "here", v'')]) (List.forall_mem_cons.mpr ⟨by rfl, List.forall_mem_cons.mpr ⟨by rfl, List.forall_mem_nil _⟩⟩) ⟨rfl, n'', v'', by omega, hR'', rfl⟩
end
section
set_option hygiene false in
local macro_rules | `(tactic| kt_at_get) => `(tactic| first | with_reducible apply List.mem_cons_self | ((with_reducible apply List.mem_cons_of_mem); kt_at_get) | ((with_reducible apply List.mem_append_right); kt_at_get) | ((with_reducible apply List.mem_append_left); kt_at_get) | with_reducible assumption)
set_option hygiene false in
local macro_rules | `(tactic| k_mem) => `(tactic| kt_at_get)
set_option hygiene false in
local macro_rules | `(tactic| kt_at_in) => `(tactic| first | with_reducible apply Sub.refl | ((with_reducible apply Sub.tail); kt_at_in) | ((with_reducible apply Sub.right); kt_at_in) | ((with_reducible apply Sub.left); kt_at_in))
set_option hygiene false in
local macro_rules | `(tactic| kt_at_notin) => `(tactic| first | with_reducible apply Sub.refl | ((with_reducible apply Sub.cons); (focus kt_at_get); kt_at_notin) | ((with_reducible apply Sub.app); (focus kt_at_notin); kt_at_notin) | with_reducible apply Sub.nil | kt_at_in)
set_option hygiene false in
local macro_rules | `(tactic| tb_start) => `(tactic| (repeat (first | exact List.forall_mem_nil _ | refine List.forall_mem_cons.mpr ⟨by exact rfl, ?_⟩)))
set_option hygiene false in
local macro_rules | `(tactic| walk_at $s:str) => `(tactic| k_extra $s)
local macro_rules | `(tactic| walk_at "call ref") => `(tactic| (k_here; k_dflt (refine' call_cls ?k1 ?k2 ?k3 ?k4 ?k5 ?k6 ?_; (case k1 => k_asm); (case k2 => k_asm); (case k3 => k_asm); (case k4 => k_is); (case k5 => k_is); (case k6 => k_is); k_whole; intro x' d' h' F' N' l1 l2; (try k_lt l1); (try k_lt2 l2); (try k_sweep); (refine' code_def ?k1 ?k2 ?k3 ?k4 ?k5 ?kA ?kF ?kK ?k6 ?k7 ?k8 ?k9 ?kB ?_ ?c2 ?c3 ?c4 ?c5; (case kA => exact rfl); (case kF => exact rfl); (case kK => first | assumption | exact rfl); (case k1 => k_asm); (case k2 => k_asm); (case k3 => k_asm); (case k4 => k_asm); (case k5 => k_asm); (case k6 => k_is); (case k7 => k_is); (case k8 => first | ktr_room | cb_room); (case k9 => first | exact BindsTo.of_eq rfl | exact binds_K (by k_in) rfl (by k_is) rfl rfl rfl); (case c5 => decide); (case kB => exact locs rfl); (case c2 => exact rfl); (case c3 => exact rfl); (case c4 => exact rfl); k_whole; intro g' L' h' FG' F' N' B' X' T'; (try dsimp only); (try k_lift B'); (try k_fold)))))
set_option hygiene false in
local macro_rules | `(tactic| walk_at "call ref") => `(tactic| k_extra "call!")
set_option hygiene false in
local macro_rules | `(tactic| walk_at "TurnPost") => `(tactic| ((with_reducible show TurnPost _ _ _ _ _ _ _ _ (Flow.ret _) _); dsimp only [TurnPost]))
set_option hygiene false in
local macro_rules | `(tactic| walk_at "TurnPost") => `(tactic| ((with_reducible show TurnPost _ _ _ _ _ _ _ _ (Flow.next) _); refine held ?_))
set_option hygiene false in
local macro_rules | `(tactic| walk_at "TurnPost") => `(tactic| ((with_reducible show TurnPost _ _ _ _ _ _ _ _ (Flow.cont) _); refine held ?_))
local macro_rules | `(tactic| walk_at "exec For") => `(tactic| (k_here; (rename Fr _ _ _ _ => lF'); (with_unfolding_all refine' For_invVF lF' ?k1 ?k2 ?_; (case k1 => exact rfl); (case k2 => exact rfl))))
local macro_rules | `(tactic| walk_at "exec For Name Name cons nil") => `(tactic| (k_here; (rename Fr _ _ _ _ => lF'); (with_unfolding_all refine' For_invVF lF' ?k1 ?k2 ?_; (case k1 => exact rfl); (case k2 => exact rfl))))
local macro_rules | `(tactic| walk_at "exec For Name Call cons nil") => `(tactic| (k_here; (rename Fr _ _ _ _ => lF'); (with_unfolding_all refine' For_invVF lF' ?k1 ?k2 ?_; (case k1 => exact rfl); (case k2 => exact rfl))))
set_option hygiene false in
local macro_rules | `(tactic| walk_at "eval ListComp") => `(tactic| (k_here; (with_reducible show wpAny _ _ (eval (Expr.ListComp _ [Comprehension.mk _ _ [_] _] _ _) _) _ _ _); k_dflt (refine LCt.ListComp_T (F₀ := by k_asm) (by with_unfolding_all rfl) (by decide) (by rfl) (by decide) (by rfl) ?_)))
set_option hygiene false in
local macro_rules | `(tactic| walk_at "eval ListComp") => `(tactic| (k_here; (with_reducible show wpAny _ _ (eval (Expr.ListComp _ [Comprehension.mk _ _ [] _] _ _) _) _ _ _); k_dflt (refine LCg.ListComp_U (F₀ := by k_asm) (by with_unfolding_all rfl) (by decide) (by rfl) (by decide) (by rfl) ?_)))
set_option hygiene false in
local macro_rules | `(tactic| walk_at "exec Assign cons ListComp") => `(tactic| (k_here; (with_reducible show wpAny _ _ (exec (Stmt.Assign _ (Expr.ListComp _ [Comprehension.mk _ _ [_] _] _ _) _) _) _ _ _); k_dflt (refine LCt.Assign_ListComp_T (F₀ := by k_asm) (by rfl) (by with_unfolding_all rfl) (by with_unfolding_all rfl) (by decide) (by rfl) (by decide) (by rfl) (by rfl) (by rfl) ?_)))
set_option hygiene false in
local macro_rules | `(tactic| walk_at "exec Assign cons ListComp") => `(tactic| (k_here; (with_reducible show wpAny _ _ (exec (Stmt.Assign _ (Expr.ListComp _ [Comprehension.mk _ _ [] _] _ _) _) _) _ _ _); k_dflt (refine LCg.Assign_ListComp_U (F₀ := by k_asm) (by rfl) (by with_unfolding_all rfl) (by with_unfolding_all rfl) (by decide) (by rfl) (by decide) (by rfl) (by rfl) (by rfl) ?_)))
set_option hygiene false in
local macro_rules | `(tactic| walk_at "CompSrc") => `(tactic| (refine held ?_))
set_option hygiene false in
local macro_rules | `(tactic| walk_at "CompSrcT") => `(tactic| (refine held ?_))
set_option hygiene false in
local macro_rules | `(tactic| walk_at "CompEnd") => `(tactic| (refine held ?_))
set_option hygiene false in
local macro_rules | `(tactic| walk_at "FinE") => `(tactic| (refine held ?_))
set_option hygiene false in
local macro_rules | `(tactic| walk_at "FinA") => `(tactic| (refine held ?_))
local macro_rules | `(tactic| walk_at "eval Name") => `(tactic| (k_here; (with_reducible show wpAny _ _ (eval (Expr.Name _ _) (compEnvC _ _ _ _)) _ _ _); k_dflt (refine' kcf_cell ?k1 ?k2 ?k3 ?k4 ?_; (case k1 => k_asm); (case k2 => exact rfl); (case k3 => k_mem); (case k4 => k_asm))))
set_option hygiene false in
local macro_rules | `(tactic| walk_at "call builtin:len") => `(tactic| k_extra "call builtin:len")
set_option hygiene false in
local macro_rules | `(tactic| walk_at "subscriptTail") => `(tactic| k_extra "subscriptTail")
set_option hygiene false in
local macro_rules | `(tactic| walk_at "setItem ref int") => `(tactic| k_extra "setItem ref int")
set_option hygiene false in
local macro_rules | `(tactic| walk_at "setItem ref str") => `(tactic| k_extra "setItem ref str")
set_option hygiene false in
local macro_rules | `(tactic| walk_at "call builtin:list.append") => `(tactic| k_extra "call builtin:list.append")
set_option hygiene false in
local macro_rules | `(tactic| walk_at "getItem ref int") => `(tactic| k_extra "getItem ref int")
set_option hygiene false in
local macro_rules | `(tactic| k_all) => `(tactic| (refine NeAll.to ?_; kt_at_method))
set_option hygiene false in
local macro_rules | `(tactic| k_ne) => `(tactic| first | with_reducible assumption | (apply Ne.symm; with_reducible assumption) | ((try dsimp only); first | (with_reducible apply Nat.ne_of_lt; with_reducible assumption) | (with_reducible apply Nat.ne_of_gt; with_reducible assumption)) | (refine neN ?_; (try dsimp only); omega))
set_option hygiene false in
local macro_rules | `(tactic| kt_at_item) => `(tactic| first | with_reducible apply PullAt.head | ((with_reducible apply PullAt.cons); kt_at_item) | ((with_reducible apply PullAt.app); kt_at_item))
set_option hygiene false in
local macro_rules | `(tactic| wrow_steps) => `(tactic| repeat' ((fail_if_success (with_reducible change Held _)); first | (k_unfold; (try dsimp only)) | (first | ((fail_if_success (fail_if_success k_fold)); refine (let zq7 := _; (?_ : wpAny _ _ _ zq7 _ _))) | ((fail_if_success (goal_lacks PySem.Shared.mk)); (fail_if_success k_fold); refine (let zs7 : Shared := _; (?_ : wpAny _ _ _ _ _ zs7))) | ((fail_if_success (goal_lacks PySem.leaving)); (fail_if_success k_fold); (fail_if_success (with_reducible show wpAny _ _ (PySem.leaving _ _) _ _ _)); refine (let zx7 := _; (?_ : wpAny _ _ _ _ zx7 _))) | ((with_reducible show wpAny _ _ (PySem.execs _ _) _ _ _); (rename Fr _ _ _ _ => zF7); revert zF7; (fail_if_success (goal_lacks ite)); refine foldM ?_; intro zm7 zF7)) | walk1 | (dsimp only [List.cons_append, List.nil_append]; walk1) | (leave1; (try dsimp only)) | fail "no step"))
section
local macro_rules | `(tactic| tb_rel) => `(tactic| first | (refine Sub.to ?_; kt_at_notin) | (intro p hp; first | exact hp | k_mem | ((try simp only [List.mem_append, List.mem_cons] at hp); (repeat' (with_reducible refine Or.elim hp (fun hp => ?_) (fun hp => ?_))); all_goals (first | k_mem | (subst hp; k_mem)))))
set_option hygiene false in
local macro_rules | `(tactic| kt_at_method) => `(tactic| first | (apply NeAll.of; with_reducible assumption) | with_reducible apply NeAll.nil | (with_reducible apply NeAll.ofLt; simp only [AllLt, and_true]; with_reducible assumption) | ((with_reducible apply NeAll.cons); (focus k_ne); kt_at_method) | ((with_reducible apply NeAll.app); (focus kt_at_method); kt_at_method) | (apply NeAll.of; exact Apart.ne (by with_reducible assumption) (by k_mem)))
-- part Take
abbrev srcO (cl : Addr) (rest : Int) (place : Nat) (t1 t2 : Tok) (n : Nat) : Obj := listOf [.ref cl, .int rest t1, .int (place : Int) t2].toArray n
theorem take_ok (w : World) (rest : List (Addr × Obj)) (src cl : Addr) (cells : List Value) (ns : List Int) (nc n place : Nat) (t1 t2 tl : Tok) (r l : Int) (m1 : (cl, listOf cells.toArray nc) ∈ rest) (hi : IntsAre cells ns) (hns : 0 < ns.length) (hns2 : ns.length ≤ 100) (hne : ∀ p ∈ rest, p.1 ≠ src) (hr : 0 ≤ r) (hp : place ≤ 1000) (hl : 0 < l) (hl2 : l < 10) : Ctr w 565 1 [.ref src, .int l tl] ((src, srcO cl r place t1 t2 n) :: rest) (fun r' n' => ∃ v t r2 t3 t4 n2, Value.int v t = r' ∧ 0 ≤ v ∧ v < l ∧ 0 ≤ r2 ∧ (src, srcO cl r2 (place + 1) t3 t4 n2) :: rest = n') := by
  unfold Ctr
  k_fill
  k_with_none
  intros; rename_i hret
  refine (let A9 : Around := _; (?_ : wpAny _ A9 _ _ _ _))
  refine wpAny_call ?_
  k_dflt (refine' code_def ?k1 ?k2 ?k3 ?k4 ?k5 ?kA ?kF ?kK ?k6 ?k7 ?k8 ?k9 ?kB ?_ ?c2 ?c3 ?c4 ?c5; (case kA => exact rfl); (case kF => exact rfl); (case kK => first | assumption | exact rfl); (case k1 => k_asm); (case k2 => k_asm); (case k3 => k_asm); (case k4 => k_asm); (case k5 => k_asm); (case k6 => k_is); (case k7 => k_is); (case k8 => ktr_room); (case k9 => first | exact BindsTo.of_eq rfl | exact binds_K (by k_in) rfl (by k_is) rfl rfl rfl); (case c5 => decide); (case kB => exact locs rfl); (case c2 => exact rfl); (case c3 => exact rfl); (case c4 => exact rfl); k_whole; intro g' L' h' FG' F' N' B' X' T'; (try dsimp only); (try k_lift B'); (try k_fold))
  refine (let e9 : Env := _; (?_ : wpAny _ (Around.deeper _ e9) (execs _ e9) _ _ _))
  refine (let B9 : Around := _; (?_ : wpAny _ B9 _ _ _ _))
  (rename Fr _ _ _ _ => lF)
  replace lF := fr_fold [((Str.ofString "source"), .ref src), ((Str.ofString "limit"), .int l tl)] lF (by tb_start)
  obtain ⟨u, lF⟩ := lF
  dsimp only [kstB] at lF
  k_with_none
  k_with "setItem ref int" => (k_dflt (refine' store_L rest ?F ?N ?m ?k hne ?h0 ?hf ?h1 ?_); (case F => k_asm); (case N => k_asm); (case m => exact List.Mem.head _); (case k => exact fun p hp => List.Mem.tail _ hp); (case h0 => decide); (case hf => decide); (case h1 => (simp only [List.length_cons, List.length_nil]; decide)); intro h' F' N'; (try simp only [List.set, Int.toNat] at N'))
  have hcl := hi.length
  k_with "call builtin:len" => (k_dflt (refine' len_L ?N ?m ?z ?_); (case N => k_asm); (case m => k_mem); (case z => omega); intro t9 tk9)
  k_with "subscriptTail" => (k_dflt (refine' anyint_L ?N ?m hi ?h0 ?h1 ?hf ?_ ?hs); (case N => k_asm); (case m => k_mem); (case h0 => exact (fmod_in _ (by omega)).1); (case h1 => (have h9 := fmod_in (place : Int) (b := (cells.length : Int)) (by omega); omega)); (case hf => (have h9 := fmod_in (place : Int) (b := (cells.length : Int)) (by omega); omega)); (case hs => with_unfolding_all rfl); intro i9 t9)
  k_steps
  all_goals (refine' hret _ _ _ _ ?e1 ?e2 ?e3; (case e1 => k_asm); (case e2 => k_asm); (case e3 => exact by refine ⟨_, _, _, _, _, _, rfl, (fmod_in _ hl).1, (fmod_in _ hl).2, ?_, rfl⟩; first | exact hr | exact fdiv_in hl hr))
-- part Shelf
theorem lt_apart4 {a b c d : Nat} {oa ob oc od : Obj} {news : List (Addr × Obj)} (l1 : ∀ p ∈ news, p.1 < a) (l2 : a < b) (l3 : b < c) (l4 : c < d) : Apart [(d, od), (c, oc), (b, ob), (a, oa)] news :=
  Apart.cons (fun q hq => Nat.ne_of_lt (Nat.lt_trans (l1 q hq) (by omega))) (Apart.cons (fun q hq => Nat.ne_of_lt (Nat.lt_trans (l1 q hq) (by omega))) (Apart.cons (fun q hq => Nat.ne_of_lt (Nat.lt_trans (l1 q hq) l2)) (Apart.cons (fun q hq => Nat.ne_of_lt (l1 q hq)) Apart.nil)))
inductive NewShelf (w : World) (news : List (Addr × Obj)) (v : Value) (n' : List (Addr × Obj)) (sh dsh T tr : Addr) (oT oTr : Obj) : Prop
  | mk (h1 k1 h2 k2 c : _) (e0 : v = .ref sh) (e1 : (tr, oTr) :: (T, oT) :: (sh, instObj 377 dsh) :: (dsh, dictOf [⟨h1, .str (Str.ofString "table") k1, .ref T⟩, ⟨h2, .str (Str.ofString "trailer") k2, .ref tr⟩] c) :: news = n') (e2 : oT.IsDictOf (PySem.intKind PySem.Challenge.rw_qd0128_01.prog w) []) (e3 : oTr.IsDictOf (PySem.strKind PySem.Challenge.rw_qd0128_01.prog w) []) (e4 : (T == sysModules) = false) (e5 : (tr == sysModules) = false) (e6 : (∀ p ∈ news, p.1 < dsh)) (e7 : @LT.lt Nat _ dsh sh) (e8 : @LT.lt Nat _ sh T) (e9 : @LT.lt Nat _ T tr)
theorem shelf_mk (w : World) (news : List (Addr × Obj)) : Ctr w 377 2 [] news (fun r' n' => ∃ sh dsh T tr oT oTr, NewShelf w news r' n' sh dsh T tr oT oTr) := by
  unfold Ctr
  k_fill
  k_with_none
  intros; rename_i hret
  k_with_none
  k_steps
  all_goals (refine' hret _ _ _ _ ?e1 ?e2 ?e3; (case e1 => k_asm); (case e2 => k_asm); (case e3 => exact ⟨_, _, _, _, _, _, _, _, _, _, _, rfl, rfl, by assumption, by assumption, by assumption, by assumption, by assumption, by first | assumption | omega, by first | assumption | omega, by first | assumption | omega⟩))
-- part Get
theorem get_ok (w : World) (news : List (Addr × Obj)) (kvs : List (Int × Value)) (sh tr : Addr) (hv r t : Value) (kvd : List (Str × Value)) (key : Str) (tk : Tok) (n : Nat) (hsh : ShelfAt w news sh tr kvs) (hdi : StrDict w news hv kvd) (hR : Res news kvs n ((valueAt kvd key).getD .none) r) (hn : n < 30) (hkd : Knd w news r t) (hno : NoRef w t) : Ctr w 320 2 [.ref sh, hv, .str key tk] news (fun r' n' => r = r' ∧ news = n') := by
  unfold Ctr
  k_fill
  k_with_none
  have hsh' := hsh
  obtain ⟨dsh, T, h1, k1, h2, k2, c, oT, m1, m2, m3, hDT, loT⟩ := hsh
  have hd' := hdi
  obtain ⟨d, o, ed, m4, hD, lo⟩ := hdi
  subst ed
  intros; rename_i hret
  refine (let A9 : Around := _; (?_ : wpAny _ A9 _ _ _ _))
  refine wpAny_call ?_
  k_dflt (refine' code_def ?k1 ?k2 ?k3 ?k4 ?k5 ?kA ?kF ?kK ?k6 ?k7 ?k8 ?k9 ?kB ?_ ?c2 ?c3 ?c4 ?c5; (case kA => exact rfl); (case kF => exact rfl); (case kK => first | assumption | exact rfl); (case k1 => k_asm); (case k2 => k_asm); (case k3 => k_asm); (case k4 => k_asm); (case k5 => k_asm); (case k6 => k_is); (case k7 => k_is); (case k8 => ktr_room); (case k9 => first | exact BindsTo.of_eq rfl | exact binds_K (by k_in) rfl (by k_is) rfl rfl rfl); (case c5 => decide); (case kB => exact locs rfl); (case c2 => exact rfl); (case c3 => exact rfl); (case c4 => exact rfl); k_whole; intro g' L' h' FG' F' N' B' X' T'; (try dsimp only); (try k_lift B'); (try k_fold))
  refine (let e9 : Env := _; (?_ : wpAny _ (Around.deeper _ e9) (execs _ e9) _ _ _))
  refine (let B9 : Around := _; (?_ : wpAny _ B9 _ _ _ _))
  (rename Fr _ _ _ _ => lF)
  replace lF := fr_fold [((Str.ofString "self"), .ref sh), ((Str.ofString "head"), .ref d), ((Str.ofString "key"), .str key tk)] lF (by tb_start)
  obtain ⟨u, lF⟩ := lF
  dsimp only [kstB] at lF
  k_with_none
  k_with "dictget!" => (k_dflt (refine' kdg_get1 (knd := PySem.strKind _ _) ?N ?m hD lo (strKind_is _ _ _ _) _ rfl ?_); (case N => k_asm); (case m => k_mem))
  k_with "method!" => (k_dflt (refine' kdg_method (knd := PySem.strKind _ _) ?N ?m hD ?_); (case N => k_asm); (case m => k_mem))
  k_with "method!" => (k_dflt (refine' method_inst ?k1 ?k2 ?k3 ?k4 ?k5 ?k6 ?k7 ?_); (case k1 => k_asm); (case k2 => k_asm); (case k3 => k_inst); (case k4 => k_is); (case k5 => k_is); (case k6 => k_is); (case k7 => k_get); k_whole)
  k_with "call!" => ((with_reducible show wpAny _ _ (call (Value.ref 313) _) _ _ _); k_dflt (refine' Ctr.use ?kC ?k1 ?k2 ?k3 ?k4 ?k5 ?kK ?kd ?ku ?_); (case k4 => k_asm); (case kC => k_dflt (exact fetch_ok w _ kvs sh tr _ r t n (hsh'.sub (by tb_rel)) (hR.sub (by tb_rel)) hn (hkd.sub (by tb_rel)) hno)); (case k1 => k_asm); (case k2 => k_asm); (case k3 => k_asm); (case k5 => k_asm); (case kK => first | exact rfl | assumption); (case kd => ktr_room); (case ku => ktr_units); intro r9 n9 h9 tk9 F9 N9 p9; (obtain ⟨e8, e9⟩ := p9; subst e8; subst e9); (try dsimp only); (try k_fold))
  k_steps
  all_goals exact hret _ _ _ _ (by k_asm) (by k_asm) ⟨rfl, rfl⟩
-- part Word
theorem word_name (w : World) (news : List (Addr × Obj)) (kvs : List (Int × Value)) (sh tr : Addr) (hv : Value) (kvd : List (Str × Value)) (key : Str) (tk : Tok) (r df : Value) (x : Str) (n : Nat) (hsh : ShelfAt w news sh tr kvs) (hdi : StrDict w news hv kvd) (hR : Res news kvs n ((valueAt kvd key).getD .none) r) (hn : n < 30) (hx : NameAt news r x) : Ctr w 415 3 [.ref sh, hv, .str key tk, df] news (fun r' n' => (∃ t, Value.str x t = r') ∧ news = n') := by
  unfold Ctr
  k_fill
  k_with_none
  have hsh' := hsh
  obtain ⟨dsh, T, h1, k1, h2, k2, c, oT, m1, m2, m3, hDT, loT⟩ := hsh
  have hx' := hx
  obtain ⟨a, da, x1, x2, x3, x4, ex, mx1, mx2⟩ := hx
  subst ex
  intros; rename_i hret
  refine (let A9 : Around := _; (?_ : wpAny _ A9 _ _ _ _))
  refine wpAny_call ?_
  k_dflt (refine' code_def ?k1 ?k2 ?k3 ?k4 ?k5 ?kA ?kF ?kK ?k6 ?k7 ?k8 ?k9 ?kB ?_ ?c2 ?c3 ?c4 ?c5; (case kA => exact rfl); (case kF => exact rfl); (case kK => first | assumption | exact rfl); (case k1 => k_asm); (case k2 => k_asm); (case k3 => k_asm); (case k4 => k_asm); (case k5 => k_asm); (case k6 => k_is); (case k7 => k_is); (case k8 => ktr_room); (case k9 => first | exact BindsTo.of_eq rfl | exact binds_K (by k_in) rfl (by k_is) rfl rfl rfl); (case c5 => decide); (case kB => exact locs rfl); (case c2 => exact rfl); (case c3 => exact rfl); (case c4 => exact rfl); k_whole; intro g' L' h' FG' F' N' B' X' T'; (try dsimp only); (try k_lift B'); (try k_fold))
  refine (let e9 : Env := _; (?_ : wpAny _ (Around.deeper _ e9) (execs _ e9) _ _ _))
  refine (let B9 : Around := _; (?_ : wpAny _ B9 _ _ _ _))
  (rename Fr _ _ _ _ => lF)
  replace lF := fr_fold [((Str.ofString "shelf"), .ref sh), ((Str.ofString "head"), hv), ((Str.ofString "key"), .str key tk), ((Str.ofString "default"), df)] lF (by tb_start)
  obtain ⟨u, lF⟩ := lF
  dsimp only [kstB] at lF
  k_with_none
  k_with "method!" => (k_dflt (refine' method_inst ?k1 ?k2 ?k3 ?k4 ?k5 ?k6 ?k7 ?_); (case k1 => k_asm); (case k2 => k_asm); (case k3 => k_inst); (case k4 => k_is); (case k5 => k_is); (case k6 => k_is); (case k7 => k_get); k_whole)
  k_with "call!" => ((with_reducible show wpAny _ _ (call (Value.ref 320) _) _ _ _); k_dflt (refine' Ctr.use ?kC ?k1 ?k2 ?k3 ?k4 ?k5 ?kK ?kd ?ku ?_); (case k4 => k_asm); (case kC => k_dflt (exact get_ok w _ kvs sh tr hv _ _ kvd key _ n (hsh'.sub (by tb_rel)) (hdi.sub (by tb_rel)) (hR.sub (by tb_rel)) hn (hx'.knd.sub (by tb_rel)) (noRef_name w))); (case k1 => k_asm); (case k2 => k_asm); (case k3 => k_asm); (case k5 => k_asm); (case kK => first | exact rfl | assumption); (case kd => ktr_room); (case ku => ktr_units); intro r9 n9 h9 tk9 F9 N9 p9; (obtain ⟨e8, e9⟩ := p9; subst e8; subst e9); (try dsimp only); (try k_fold))
  k_steps
  all_goals (refine' hret _ _ _ _ ?e1 ?e2 ?e3; (case e1 => k_asm); (case e2 => k_asm); (case e3 => exact ⟨⟨_, rfl⟩, rfl⟩))
theorem word_none (w : World) (news : List (Addr × Obj)) (kvs : List (Int × Value)) (sh tr : Addr) (hv : Value) (kvd : List (Str × Value)) (key : Str) (tk : Tok) (df : Value) (n : Nat) (hsh : ShelfAt w news sh tr kvs) (hdi : StrDict w news hv kvd) (hR : Res news kvs n ((valueAt kvd key).getD .none) .none) (hn : n < 30) : Ctr w 415 3 [.ref sh, hv, .str key tk, df] news (fun r' n' => df = r' ∧ news = n') := by
  unfold Ctr
  k_fill
  k_with_none
  have hsh' := hsh
  obtain ⟨dsh, T, h1, k1, h2, k2, c, oT, m1, m2, m3, hDT, loT⟩ := hsh
  intros; rename_i hret
  refine (let A9 : Around := _; (?_ : wpAny _ A9 _ _ _ _))
  refine wpAny_call ?_
  k_dflt (refine' code_def ?k1 ?k2 ?k3 ?k4 ?k5 ?kA ?kF ?kK ?k6 ?k7 ?k8 ?k9 ?kB ?_ ?c2 ?c3 ?c4 ?c5; (case kA => exact rfl); (case kF => exact rfl); (case kK => first | assumption | exact rfl); (case k1 => k_asm); (case k2 => k_asm); (case k3 => k_asm); (case k4 => k_asm); (case k5 => k_asm); (case k6 => k_is); (case k7 => k_is); (case k8 => ktr_room); (case k9 => first | exact BindsTo.of_eq rfl | exact binds_K (by k_in) rfl (by k_is) rfl rfl rfl); (case c5 => decide); (case kB => exact locs rfl); (case c2 => exact rfl); (case c3 => exact rfl); (case c4 => exact rfl); k_whole; intro g' L' h' FG' F' N' B' X' T'; (try dsimp only); (try k_lift B'); (try k_fold))
  refine (let e9 : Env := _; (?_ : wpAny _ (Around.deeper _ e9) (execs _ e9) _ _ _))
  refine (let B9 : Around := _; (?_ : wpAny _ B9 _ _ _ _))
  (rename Fr _ _ _ _ => lF)
  replace lF := fr_fold [((Str.ofString "shelf"), .ref sh), ((Str.ofString "head"), hv), ((Str.ofString "key"), .str key tk), ((Str.ofString "default"), df)] lF (by tb_start)
  obtain ⟨u, lF⟩ := lF
  dsimp only [kstB] at lF
  k_with_none
  k_with "method!" => (k_dflt (refine' method_inst ?k1 ?k2 ?k3 ?k4 ?k5 ?k6 ?k7 ?_); (case k1 => k_asm); (case k2 => k_asm); (case k3 => k_inst); (case k4 => k_is); (case k5 => k_is); (case k6 => k_is); (case k7 => k_get); k_whole)
  k_with "call!" => ((with_reducible show wpAny _ _ (call (Value.ref 320) _) _ _ _); k_dflt (refine' Ctr.use ?kC ?k1 ?k2 ?k3 ?k4 ?k5 ?kK ?kd ?ku ?_); (case k4 => k_asm); (case kC => k_dflt (exact get_ok w _ kvs sh tr hv _ _ kvd key _ n (hsh'.sub (by tb_rel)) (hdi.sub (by tb_rel)) (hR.sub (by tb_rel)) hn (Knd.none) (noRef_none w))); (case k1 => k_asm); (case k2 => k_asm); (case k3 => k_asm); (case k5 => k_asm); (case kK => first | exact rfl | assumption); (case kd => ktr_room); (case ku => ktr_units); intro r9 n9 h9 tk9 F9 N9 p9; (obtain ⟨e8, e9⟩ := p9; subst e8; subst e9); (try dsimp only); (try k_fold))
  k_steps
  all_goals (refine' hret _ _ _ _ ?e1 ?e2 ?e3; (case e1 => k_asm); (case e2 => k_asm); (case e3 => exact ⟨rfl, rfl⟩))
theorem items_list (w : World) (news : List (Addr × Obj)) (kvs : List (Int × Value)) (sh tr : Addr) (hv : Value) (kvd : List (Str × Value)) (key : Str) (tk : Tok) (l : Addr) (o : Obj) (n : Nat) (hsh : ShelfAt w news sh tr kvs) (hdi : StrDict w news hv kvd) (hR : Res news kvs n ((valueAt kvd key).getD .none) (.ref l)) (hn : n < 30) (hl : (l, o) ∈ news) (hc : o.cls = .type "list") : Ctr w 422 3 [.ref sh, hv, .str key tk] news (fun r' n' => Value.ref l = r' ∧ news = n') := by
  unfold Ctr
  k_fill
  k_with_none
  have hsh' := hsh
  obtain ⟨dsh, T, h1, k1, h2, k2, c, oT, m1, m2, m3, hDT, loT⟩ := hsh
  intros; rename_i hret
  refine (let A9 : Around := _; (?_ : wpAny _ A9 _ _ _ _))
  refine wpAny_call ?_
  k_dflt (refine' code_def ?k1 ?k2 ?k3 ?k4 ?k5 ?kA ?kF ?kK ?k6 ?k7 ?k8 ?k9 ?kB ?_ ?c2 ?c3 ?c4 ?c5; (case kA => exact rfl); (case kF => exact rfl); (case kK => first | assumption | exact rfl); (case k1 => k_asm); (case k2 => k_asm); (case k3 => k_asm); (case k4 => k_asm); (case k5 => k_asm); (case k6 => k_is); (case k7 => k_is); (case k8 => ktr_room); (case k9 => first | exact BindsTo.of_eq rfl | exact binds_K (by k_in) rfl (by k_is) rfl rfl rfl); (case c5 => decide); (case kB => exact locs rfl); (case c2 => exact rfl); (case c3 => exact rfl); (case c4 => exact rfl); k_whole; intro g' L' h' FG' F' N' B' X' T'; (try dsimp only); (try k_lift B'); (try k_fold))
  refine (let e9 : Env := _; (?_ : wpAny _ (Around.deeper _ e9) (execs _ e9) _ _ _))
  refine (let B9 : Around := _; (?_ : wpAny _ B9 _ _ _ _))
  (rename Fr _ _ _ _ => lF)
  replace lF := fr_fold [((Str.ofString "shelf"), .ref sh), ((Str.ofString "head"), hv), ((Str.ofString "key"), .str key tk)] lF (by tb_start)
  obtain ⟨u, lF⟩ := lF
  dsimp only [kstB] at lF
  k_with_none
  k_with "method!" => (k_dflt (refine' method_inst ?k1 ?k2 ?k3 ?k4 ?k5 ?k6 ?k7 ?_); (case k1 => k_asm); (case k2 => k_asm); (case k3 => k_inst); (case k4 => k_is); (case k5 => k_is); (case k6 => k_is); (case k7 => k_get); k_whole)
  k_with "call!" => ((with_reducible show wpAny _ _ (call (Value.ref 320) _) _ _ _); k_dflt (refine' Ctr.use ?kC ?k1 ?k2 ?k3 ?k4 ?k5 ?kK ?kd ?ku ?_); (case k4 => k_asm); (case kC => k_dflt (exact get_ok w _ kvs sh tr hv _ _ kvd key _ n (hsh'.sub (by tb_rel)) (hdi.sub (by tb_rel)) (hR.sub (by tb_rel)) hn ((Knd.list hl hc).sub (by tb_rel)) (noRef_list w))); (case k1 => k_asm); (case k2 => k_asm); (case k3 => k_asm); (case k5 => k_asm); (case kK => first | exact rfl | assumption); (case kd => ktr_room); (case ku => ktr_units); intro r9 n9 h9 tk9 F9 N9 p9; (obtain ⟨e8, e9⟩ := p9; subst e8; subst e9); (try dsimp only); (try k_fold))
  k_with "isi!" => (k_dflt (refine' Knd.isi (b := true) ?k ?N ?X ?e ?_); (case N => k_asm); (case k => k_dflt (exact (Knd.list hl hc).sub (by tb_rel))); (case X => k_in); (case e => kit_is); k_whole; intro tk')
  k_steps
  all_goals (refine' hret _ _ _ _ ?e1 ?e2 ?e3; (case e1 => k_asm); (case e2 => k_asm); (case e3 => exact ⟨rfl, rfl⟩))
theorem items_none (w : World) (news : List (Addr × Obj)) (kvs : List (Int × Value)) (sh tr : Addr) (hv : Value) (kvd : List (Str × Value)) (key : Str) (tk : Tok) (n : Nat) (hsh : ShelfAt w news sh tr kvs) (hdi : StrDict w news hv kvd) (hR : Res news kvs n ((valueAt kvd key).getD .none) .none) (hn : n < 30) : Ctr w 422 3 [.ref sh, hv, .str key tk] news (fun r' n' => ∃ l nn, Value.ref l = r' ∧ (l, listOf #[] nn) :: news = n' ∧ (∀ p ∈ news, p.1 < l)) := by
  unfold Ctr
  k_fill
  k_with_none
  have hsh' := hsh
  obtain ⟨dsh, T, h1, k1, h2, k2, c, oT, m1, m2, m3, hDT, loT⟩ := hsh
  intros; rename_i hret
  refine (let A9 : Around := _; (?_ : wpAny _ A9 _ _ _ _))
  refine wpAny_call ?_
  k_dflt (refine' code_def ?k1 ?k2 ?k3 ?k4 ?k5 ?kA ?kF ?kK ?k6 ?k7 ?k8 ?k9 ?kB ?_ ?c2 ?c3 ?c4 ?c5; (case kA => exact rfl); (case kF => exact rfl); (case kK => first | assumption | exact rfl); (case k1 => k_asm); (case k2 => k_asm); (case k3 => k_asm); (case k4 => k_asm); (case k5 => k_asm); (case k6 => k_is); (case k7 => k_is); (case k8 => ktr_room); (case k9 => first | exact BindsTo.of_eq rfl | exact binds_K (by k_in) rfl (by k_is) rfl rfl rfl); (case c5 => decide); (case kB => exact locs rfl); (case c2 => exact rfl); (case c3 => exact rfl); (case c4 => exact rfl); k_whole; intro g' L' h' FG' F' N' B' X' T'; (try dsimp only); (try k_lift B'); (try k_fold))
  refine (let e9 : Env := _; (?_ : wpAny _ (Around.deeper _ e9) (execs _ e9) _ _ _))
  refine (let B9 : Around := _; (?_ : wpAny _ B9 _ _ _ _))
  (rename Fr _ _ _ _ => lF)
  replace lF := fr_fold [((Str.ofString "shelf"), .ref sh), ((Str.ofString "head"), hv), ((Str.ofString "key"), .str key tk)] lF (by tb_start)
  obtain ⟨u, lF⟩ := lF
  dsimp only [kstB] at lF
  k_with_none
  k_with "method!" => (k_dflt (refine' method_inst ?k1 ?k2 ?k3 ?k4 ?k5 ?k6 ?k7 ?_); (case k1 => k_asm); (case k2 => k_asm); (case k3 => k_inst); (case k4 => k_is); (case k5 => k_is); (case k6 => k_is); (case k7 => k_get); k_whole)
  k_with "call!" => ((with_reducible show wpAny _ _ (call (Value.ref 320) _) _ _ _); k_dflt (refine' Ctr.use ?kC ?k1 ?k2 ?k3 ?k4 ?k5 ?kK ?kd ?ku ?_); (case k4 => k_asm); (case kC => k_dflt (exact get_ok w _ kvs sh tr hv _ _ kvd key _ n (hsh'.sub (by tb_rel)) (hdi.sub (by tb_rel)) (hR.sub (by tb_rel)) hn (Knd.none) (noRef_none w))); (case k1 => k_asm); (case k2 => k_asm); (case k3 => k_asm); (case k5 => k_asm); (case kK => first | exact rfl | assumption); (case kd => ktr_room); (case ku => ktr_units); intro r9 n9 h9 tk9 F9 N9 p9; (obtain ⟨e8, e9⟩ := p9; subst e8; subst e9); (try dsimp only); (try k_fold))
  k_steps
  all_goals (refine' hret _ _ _ _ ?e1 ?e2 ?e3; (case e1 => k_asm); (case e2 => k_asm); (case e3 => exact ⟨_, _, rfl, rfl, by assumption⟩))
-- part Top1
theorem root_ok (w : World) (news : List (Addr × Obj)) (kvs : List (Int × Value)) (sh tr : Addr) (kvt kvr : List (Str × Value)) (rv : Value) (hsh : ShelfAt w news sh tr kvs) (ht : StrDict w news (.ref tr) kvt) (hr : valueAt kvt (Str.ofString "Root") = some rv) (hrd : StrDict w news rv kvr) : Ctr w 369 3 [.ref sh] news (fun r' n' => rv = r' ∧ news = n') := by
  unfold Ctr
  k_fill
  k_with_none
  have hsh' := hsh
  obtain ⟨dsh, T, h1, k1, h2, k2, c, oT, m1, m2, m3, hDT, loT⟩ := hsh
  intros; rename_i hret
  refine (let A9 : Around := _; (?_ : wpAny _ A9 _ _ _ _))
  refine wpAny_call ?_
  k_dflt (refine' code_def ?k1 ?k2 ?k3 ?k4 ?k5 ?kA ?kF ?kK ?k6 ?k7 ?k8 ?k9 ?kB ?_ ?c2 ?c3 ?c4 ?c5; (case kA => exact rfl); (case kF => exact rfl); (case kK => first | assumption | exact rfl); (case k1 => k_asm); (case k2 => k_asm); (case k3 => k_asm); (case k4 => k_asm); (case k5 => k_asm); (case k6 => k_is); (case k7 => k_is); (case k8 => ktr_room); (case k9 => first | exact BindsTo.of_eq rfl | exact binds_K (by k_in) rfl (by k_is) rfl rfl rfl); (case c5 => decide); (case kB => exact locs rfl); (case c2 => exact rfl); (case c3 => exact rfl); (case c4 => exact rfl); k_whole; intro g' L' h' FG' F' N' B' X' T'; (try dsimp only); (try k_lift B'); (try k_fold))
  refine (let e9 : Env := _; (?_ : wpAny _ (Around.deeper _ e9) (execs _ e9) _ _ _))
  refine (let B9 : Around := _; (?_ : wpAny _ B9 _ _ _ _))
  (rename Fr _ _ _ _ => lF)
  replace lF := fr_fold [((Str.ofString "self"), .ref sh)] lF (by tb_start)
  obtain ⟨u, lF⟩ := lF
  dsimp only [kstB] at lF
  k_with_none
  k_with "method!" => (k_dflt (refine' method_inst ?k1 ?k2 ?k3 ?k4 ?k5 ?k6 ?k7 ?_); (case k1 => k_asm); (case k2 => k_asm); (case k3 => k_inst); (case k4 => k_is); (case k5 => k_is); (case k6 => k_is); (case k7 => k_get); k_whole)
  k_with "call!" => ((with_reducible show wpAny _ _ (call (Value.ref 320) _) _ _ _); k_dflt (refine' Ctr.use ?kC ?k1 ?k2 ?k3 ?k4 ?k5 ?kK ?kd ?ku ?_); (case k4 => k_asm); (case kC => k_dflt (exact get_ok w _ kvs sh tr (.ref tr) rv _ kvt _ _ 0 (hsh'.sub (by tb_rel)) (ht.sub (by tb_rel)) (by rw [hr]; exact .here _) (by decide) (hrd.knd.sub (by tb_rel)) (noRef_dict w))); (case k1 => k_asm); (case k2 => k_asm); (case k3 => k_asm); (case k5 => k_asm); (case kK => first | exact rfl | assumption); (case kd => ktr_room); (case ku => ktr_units); intro r9 n9 h9 tk9 F9 N9 p9; (obtain ⟨e8, e9⟩ := p9; subst e8; subst e9); (try dsimp only); (try k_fold))
  k_with "isi!" => (k_dflt (refine' Knd.isi (b := true) ?k ?N ?X ?e ?_); (case N => k_asm); (case k => k_dflt (exact hrd.knd.sub (by tb_rel))); (case X => k_in); (case e => kit_is); k_whole; intro tk')
  k_steps
  all_goals (refine' hret _ _ _ _ ?e1 ?e2 ?e3; (case e1 => k_asm); (case e2 => k_asm); (case e3 => exact ⟨rfl, rfl⟩))
theorem layer_head_ok (w : World) (news : List (Addr × Obj)) (kvs : List (Int × Value)) (sh tr : Addr) (kvt kvr kvo : List (Str × Value)) (rv ov : Value) (hsh : ShelfAt w news sh tr kvs) (ht : StrDict w news (.ref tr) kvt) (hr : valueAt kvt (Str.ofString "Root") = some rv) (hrd : StrDict w news rv kvr) (ho : valueAt kvr (Str.ofString "OCProperties") = some ov) (hod : StrDict w news ov kvo) : Ctr w 443 4 [.ref sh] news (fun r' n' => ov = r' ∧ news = n') := by
  unfold Ctr
  k_fill
  k_with_none
  have hsh' := hsh
  obtain ⟨dsh, T, h1, k1, h2, k2, c, oT, m1, m2, m3, hDT, loT⟩ := hsh
  intros; rename_i hret
  refine (let A9 : Around := _; (?_ : wpAny _ A9 _ _ _ _))
  refine wpAny_call ?_
  k_dflt (refine' code_def ?k1 ?k2 ?k3 ?k4 ?k5 ?kA ?kF ?kK ?k6 ?k7 ?k8 ?k9 ?kB ?_ ?c2 ?c3 ?c4 ?c5; (case kA => exact rfl); (case kF => exact rfl); (case kK => first | assumption | exact rfl); (case k1 => k_asm); (case k2 => k_asm); (case k3 => k_asm); (case k4 => k_asm); (case k5 => k_asm); (case k6 => k_is); (case k7 => k_is); (case k8 => ktr_room); (case k9 => first | exact BindsTo.of_eq rfl | exact binds_K (by k_in) rfl (by k_is) rfl rfl rfl); (case c5 => decide); (case kB => exact locs rfl); (case c2 => exact rfl); (case c3 => exact rfl); (case c4 => exact rfl); k_whole; intro g' L' h' FG' F' N' B' X' T'; (try dsimp only); (try k_lift B'); (try k_fold))
  refine (let e9 : Env := _; (?_ : wpAny _ (Around.deeper _ e9) (execs _ e9) _ _ _))
  refine (let B9 : Around := _; (?_ : wpAny _ B9 _ _ _ _))
  (rename Fr _ _ _ _ => lF)
  replace lF := fr_fold [((Str.ofString "shelf"), .ref sh)] lF (by tb_start)
  obtain ⟨u, lF⟩ := lF
  dsimp only [kstB] at lF
  k_with_none
  k_with "method!" => (k_dflt (refine' method_inst ?k1 ?k2 ?k3 ?k4 ?k5 ?k6 ?k7 ?_); (case k1 => k_asm); (case k2 => k_asm); (case k3 => k_inst); (case k4 => k_is); (case k5 => k_is); (case k6 => k_is); (case k7 => k_get); k_whole)
  k_with "call!" => ((with_reducible show wpAny _ _ (call (Value.ref 320) _) _ _ _); k_dflt (refine' Ctr.use ?kC ?k1 ?k2 ?k3 ?k4 ?k5 ?kK ?kd ?ku ?_); (case k4 => k_asm); (case kC => k_dflt (exact get_ok w _ kvs sh tr rv ov _ kvr _ _ 0 (hsh'.sub (by tb_rel)) (hrd.sub (by tb_rel)) (by rw [ho]; exact .here _) (by decide) (hod.knd.sub (by tb_rel)) (noRef_dict w))); (case k1 => k_asm); (case k2 => k_asm); (case k3 => k_asm); (case k5 => k_asm); (case kK => first | exact rfl | assumption); (case kd => ktr_room); (case ku => ktr_units); intro r9 n9 h9 tk9 F9 N9 p9; (obtain ⟨e8, e9⟩ := p9; subst e8; subst e9); (try dsimp only); (try k_fold))
  k_with "call!" => ((with_reducible show wpAny _ _ (call (Value.ref 369) _) _ _ _); k_dflt (refine' Ctr.use ?kC ?k1 ?k2 ?k3 ?k4 ?k5 ?kK ?kd ?ku ?_); (case k4 => k_asm); (case kC => k_dflt (exact root_ok w _ kvs sh tr kvt kvr rv (hsh'.sub (by tb_rel)) (ht.sub (by tb_rel)) hr (hrd.sub (by tb_rel)))); (case k1 => k_asm); (case k2 => k_asm); (case k3 => k_asm); (case k5 => k_asm); (case kK => first | exact rfl | assumption); (case kd => ktr_room); (case ku => ktr_units); intro r9 n9 h9 tk9 F9 N9 p9; (obtain ⟨e8, e9⟩ := p9; subst e8; subst e9); (try dsimp only); (try k_fold))
  k_with "isi!" => (k_dflt (refine' Knd.isi (b := true) ?k ?N ?X ?e ?_); (case N => k_asm); (case k => k_dflt (exact hod.knd.sub (by tb_rel))); (case X => k_in); (case e => kit_is); k_whole; intro tk')
  k_steps
  all_goals (refine' hret _ _ _ _ ?e1 ?e2 ?e3; (case e1 => k_asm); (case e2 => k_asm); (case e3 => exact ⟨rfl, rfl⟩))
-- part IsG
theorem is_group_ok (w : World) (news : List (Addr × Obj)) (kvs : List (Int × Value)) (sh tr : Addr) (v hv tv : Value) (k : Int) (n : Nat) (kvh : List (Str × Value)) (hsh : ShelfAt w news sh tr kvs) (hv1 : RefAt news v k) (hR : Res news kvs n v hv) (hn : n < 30) (hh : StrDict w news hv kvh) (ht : valueAt kvh (Str.ofString "Type") = some tv) (htn : NameAt news tv (Str.ofString "OCG")) : Ctr w 429 4 [.ref sh, v] news (fun r' n' => Value.bool true = r' ∧ news = n') := by
  unfold Ctr
  k_fill
  k_with_none
  have hsh' := hsh
  obtain ⟨dsh, T, h1, k1, h2, k2, c, oT, m1, m2, m3, hDT, loT⟩ := hsh
  intros; rename_i hret
  refine (let A9 : Around := _; (?_ : wpAny _ A9 _ _ _ _))
  refine wpAny_call ?_
  k_dflt (refine' code_def ?k1 ?k2 ?k3 ?k4 ?k5 ?kA ?kF ?kK ?k6 ?k7 ?k8 ?k9 ?kB ?_ ?c2 ?c3 ?c4 ?c5; (case kA => exact rfl); (case kF => exact rfl); (case kK => first | assumption | exact rfl); (case k1 => k_asm); (case k2 => k_asm); (case k3 => k_asm); (case k4 => k_asm); (case k5 => k_asm); (case k6 => k_is); (case k7 => k_is); (case k8 => ktr_room); (case k9 => first | exact BindsTo.of_eq rfl | exact binds_K (by k_in) rfl (by k_is) rfl rfl rfl); (case c5 => decide); (case kB => exact locs rfl); (case c2 => exact rfl); (case c3 => exact rfl); (case c4 => exact rfl); k_whole; intro g' L' h' FG' F' N' B' X' T'; (try dsimp only); (try k_lift B'); (try k_fold))
  refine (let e9 : Env := _; (?_ : wpAny _ (Around.deeper _ e9) (execs _ e9) _ _ _))
  refine (let B9 : Around := _; (?_ : wpAny _ B9 _ _ _ _))
  (rename Fr _ _ _ _ => lF)
  replace lF := fr_fold [((Str.ofString "shelf"), .ref sh), ((Str.ofString "value"), v)] lF (by tb_start)
  obtain ⟨u, lF⟩ := lF
  dsimp only [kstB] at lF
  k_with_none
  k_with "method!" => (k_dflt (refine' method_inst ?k1 ?k2 ?k3 ?k4 ?k5 ?k6 ?k7 ?_); (case k1 => k_asm); (case k2 => k_asm); (case k3 => k_inst); (case k4 => k_is); (case k5 => k_is); (case k6 => k_is); (case k7 => k_get); k_whole)
  k_with "call!" => ((with_reducible show wpAny _ _ (call (Value.ref 313) _) _ _ _); k_dflt (refine' Ctr.use ?kC ?k1 ?k2 ?k3 ?k4 ?k5 ?kK ?kd ?ku ?_); (case k4 => k_asm); (case kC => k_dflt (exact fetch_ok w _ kvs sh tr v hv _ n (hsh'.sub (by tb_rel)) (hR.sub (by tb_rel)) hn (hh.knd.sub (by tb_rel)) (noRef_dict w))); (case k1 => k_asm); (case k2 => k_asm); (case k3 => k_asm); (case k5 => k_asm); (case kK => first | exact rfl | assumption); (case kd => ktr_room); (case ku => ktr_units); intro r9 n9 h9 tk9 F9 N9 p9; (obtain ⟨e8, e9⟩ := p9; subst e8; subst e9); (try dsimp only); (try k_fold))
  k_with "call!" => ((with_reducible show wpAny _ _ (call (Value.ref 415) _) _ _ _); k_dflt (refine' Ctr.use ?kC ?k1 ?k2 ?k3 ?k4 ?k5 ?kK ?kd ?ku ?_); (case k4 => k_asm); (case kC => k_dflt (exact word_name w _ kvs sh tr hv kvh (Str.ofString "Type") _ tv _ (Str.ofString "OCG") 0 (hsh'.sub (by tb_rel)) (hh.sub (by tb_rel)) (by rw [ht]; exact .here _) (by decide) (htn.sub (by tb_rel)))); (case k1 => k_asm); (case k2 => k_asm); (case k3 => k_asm); (case k5 => k_asm); (case kK => first | exact rfl | assumption); (case kd => ktr_room); (case ku => ktr_units); intro r9 n9 h9 tk9 F9 N9 p9; (obtain ⟨⟨t8, e8⟩, e9⟩ := p9; subst e8; subst e9); (try dsimp only); (try k_fold))
  k_with "isi!" => (k_dflt (refine' Knd.isi (b := true) ?k ?N ?X ?e ?_); (case N => k_asm); (case k => k_dflt (exact hh.knd.sub (by tb_rel))); (case X => k_in); (case e => kit_is); k_whole; intro tk')
  k_with "isi!" => (k_dflt (refine' Knd.isi (b := true) ?k ?N ?X ?e ?_); (case N => k_asm); (case k => k_dflt (exact hv1.knd.sub (by tb_rel))); (case X => k_in); (case e => kit_is); k_whole; intro tk')
  k_steps
  all_goals (refine' hret _ _ _ _ ?e1 ?e2 ?e3; (case e1 => k_asm); (case e2 => k_asm); (case e3 => exact ⟨rfl, rfl⟩))
-- part Gin
theorem groups_in_ok (w : World) (news : List (Addr × Obj)) (kvs : List (Int × Value)) (sh tr : Addr) (l : Addr) (vs : List Value) (nn : Nat) (hsh : ShelfAt w news sh tr kvs) (hl : (l, listOf vs.toArray nn) ∈ news) (hlen : vs.length ≤ 4) (hg : ∀ (i : Nat) v, vs[i]? = some v → ∃ hv kvh, GOk w news kvs v ((i : Int) + 1) hv kvh) : Ctr w 436 5 [.ref sh, .ref l] news (fun r' n' => ∃ lf xs n3, Value.ref lf = r' ∧ (lf, listOf xs.toArray n3) :: news = n' ∧ (∀ p ∈ news, p.1 < lf) ∧ IntsAre xs (upTo vs.length)) := by
  unfold Ctr
  k_fill
  k_with_none
  have hsh' := hsh
  obtain ⟨dsh, T, h1, k1, h2, k2, c, oT, m1, m2, m3, hDT, loT⟩ := hsh
  intros; rename_i hret
  refine (let A9 : Around := _; (?_ : wpAny _ A9 _ _ _ _))
  refine wpAny_call ?_
  k_dflt (refine' code_def ?k1 ?k2 ?k3 ?k4 ?k5 ?kA ?kF ?kK ?k6 ?k7 ?k8 ?k9 ?kB ?_ ?c2 ?c3 ?c4 ?c5; (case kA => exact rfl); (case kF => exact rfl); (case kK => first | assumption | exact rfl); (case k1 => k_asm); (case k2 => k_asm); (case k3 => k_asm); (case k4 => k_asm); (case k5 => k_asm); (case k6 => k_is); (case k7 => k_is); (case k8 => ktr_room); (case k9 => first | exact BindsTo.of_eq rfl | exact binds_K (by k_in) rfl (by k_is) rfl rfl rfl); (case c5 => decide); (case kB => exact locs rfl); (case c2 => exact rfl); (case c3 => exact rfl); (case c4 => exact rfl); k_whole; intro g' L' h' FG' F' N' B' X' T'; (try dsimp only); (try k_lift B'); (try k_fold))
  refine (let e9 : Env := _; (?_ : wpAny _ (Around.deeper _ e9) (execs _ e9) _ _ _))
  refine (let B9 : Around := _; (?_ : wpAny _ B9 _ _ _ _))
  (rename Fr _ _ _ _ => lF)
  replace lF := fr_fold [((Str.ofString "shelf"), .ref sh), ((Str.ofString "items"), .ref l)] lF (by tb_start)
  obtain ⟨u, lF⟩ := lF
  dsimp only [kstB] at lF
  k_with_none
  k_steps
  rename (∀ p ∈ news, p.1 < _) => hlf
  rename Addr => lf
  unfold Held
  (rename Fr _ _ _ _ => lF); (rename News _ _ _ _ => lN)
  with_unfolding_all refine' list_rule (vs := vs) (ps₀ := [((Str.ofString "shelf"), .ref sh), ((Str.ofString "found"), .ref lf)]) (fun i ps nx => ∃ xs n3, (lf, listOf xs.toArray n3) :: news = nx ∧ IntsAre xs (upTo i) ∧ [((Str.ofString "shelf"), .ref sh), ((Str.ofString "found"), .ref lf)] = ps) (by rfl) ?hl ?hll lF lN (by tb_start) ?j0 ?turn ?done
  case hl => exact News.isList (by k_asm) (by k_mem)
  case hll => exact (lN (l, _) (by k_mem)).2.1
  case j0 => exact ⟨[], 0, rfl, .nil, rfl⟩
  case done =>
    intro ps nx u h tk hJ hc' F N
    obtain ⟨xs, n3, e1, hxs, e2⟩ := hJ
    subst e1; subst e2
    k_steps
    all_goals (refine' hret _ _ _ _ ?e1 ?e2 ?e3; (case e1 => k_asm); (case e2 => k_asm); (case e3 => exact ⟨lf, xs, n3, rfl, rfl, hlf, hxs⟩))
  clear lF lN
  intro i v ps nx u h tk own hi hJ hc' hoff F N
  obtain ⟨xs, n3, e1, hxs, e2⟩ := hJ
  subst e1; subst e2
  dsimp only [kstB, envOf] at F N hoff
  obtain ⟨hv', kvh, hgok⟩ := hg i v hi
  obtain ⟨hra, ⟨n5, hres, hn5⟩, hsd, tv, htv, htn⟩ := hgok
  have hra' := hra
  obtain ⟨x, dx, a1, a2, a3, a4, a5, a6, a7, ex, mx, mdx⟩ := hra
  subst ex
  have hilt : i < vs.length := by
    rcases Nat.lt_or_ge i vs.length with q | q
    · exact q
    · rw [List.getElem?_eq_none q] at hi; cases hi
  have hne : ∀ p ∈ own ++ news, p.1 ≠ lf := by
    intro p hp
    rcases List.mem_append.mp hp with hp | hp
    · exact hoff p hp (lf, _) (List.Mem.head _) (Nat.ne_of_gt (hlf _ hl))
    · exact Nat.ne_of_lt (hlf p hp)
  k_with "call!" => ((with_reducible show wpAny _ _ (call (Value.ref 429) _) _ _ _); k_dflt (refine' Ctr.use ?kC ?k1 ?k2 ?k3 ?k4 ?k5 ?kK ?kd ?ku ?_); (case k4 => k_asm); (case kC => k_dflt (exact is_group_ok w _ kvs sh tr _ hv' tv ((i : Int) + 1) n5 kvh (hsh'.sub (by tb_rel)) (hra'.sub (by tb_rel)) (hres.sub (by tb_rel)) hn5 (hsd.sub (by tb_rel)) htv (htn.sub (by tb_rel)))); (case k1 => k_asm); (case k2 => k_asm); (case k3 => k_asm); (case k5 => k_asm); (case kK => first | exact rfl | assumption); (case kd => ktr_room); (case ku => ktr_units); intro r9 n9 h9 tk9 F9 N9 p9; (obtain ⟨e8, e9⟩ := p9; subst e8; subst e9); (try dsimp only); (try k_fold))
  k_with "compareOp NotIn int ref" => (k_dflt (refine' notin_L ?N ?m hxs (upTo_off i) ?_); (case N => k_asm); (case m => k_mem))
  k_with "call builtin:list.append" => (k_dflt (refine' append_L (own ++ news) ?F ?N ?m ?k hne ?z ?_); (case F => k_asm); (case N => k_asm); (case m => k_mem); (case k => tb_rel); (case z => (have hx5 := hxs.length; rw [upTo_length] at hx5; omega)); intro h' F' N')
  k_steps
  unfold Held
  refine' TurnPost.next (ps' := [((Str.ofString "shelf"), .ref sh), ((Str.ofString "found"), .ref lf)]) (nx' := (lf, listOf (xs ++ [Value.int ((i : Int) + 1) a3]).toArray (n3 + 1)) :: news) ?tF ?tN ?tn ?tc ?tk ?tJ
  (case tF => k_asm)
  (case tN => k_asm)
  (case tn => tb_rel)
  (case tc => exact Itc.cons rfl (Itc.sub hc' (by tb_rel)))
  (case tk => tb_start)
  (case tJ => exact ⟨_, _, rfl, (by rw [upTo_succ]; exact IntsAre.snoc hxs _ _), rfl⟩)
-- part Gn
theorem group_numbers_ok (w : World) (news : List (Addr × Obj)) (sh : Addr) (kvs : List (Int × Value)) (gl : Addr) (glv : List Value) (gn : Nat) (fv : Value) (kvf : List (Str × Value)) (hT : TopAt w news sh kvs gl glv gn fv kvf) (hlen : glv.length ≤ 4) (hg : ∀ (i : Nat) v, glv[i]? = some v → ∃ hv kvh, GOk w news kvs v ((i : Int) + 1) hv kvh) : Ctr w 450 6 [.ref sh] news (fun r' n' => ∃ lf xs n3, Value.ref lf = r' ∧ (lf, listOf xs.toArray n3) :: news = n' ∧ (∀ p ∈ news, p.1 < lf) ∧ IntsAre xs (upTo glv.length)) := by
  unfold Ctr
  k_fill
  k_with_none
  have hT' := hT
  obtain ⟨tr, kvt, rv, kvr, ov, kvo, hsh, ht, hr, hrd, ho, hod, hg1, hg2, hf1, hf2⟩ := hT
  intros; rename_i hret
  refine (let A9 : Around := _; (?_ : wpAny _ A9 _ _ _ _))
  refine wpAny_call ?_
  k_dflt (refine' code_def ?k1 ?k2 ?k3 ?k4 ?k5 ?kA ?kF ?kK ?k6 ?k7 ?k8 ?k9 ?kB ?_ ?c2 ?c3 ?c4 ?c5; (case kA => exact rfl); (case kF => exact rfl); (case kK => first | assumption | exact rfl); (case k1 => k_asm); (case k2 => k_asm); (case k3 => k_asm); (case k4 => k_asm); (case k5 => k_asm); (case k6 => k_is); (case k7 => k_is); (case k8 => ktr_room); (case k9 => first | exact BindsTo.of_eq rfl | exact binds_K (by k_in) rfl (by k_is) rfl rfl rfl); (case c5 => decide); (case kB => exact locs rfl); (case c2 => exact rfl); (case c3 => exact rfl); (case c4 => exact rfl); k_whole; intro g' L' h' FG' F' N' B' X' T'; (try dsimp only); (try k_lift B'); (try k_fold))
  refine (let e9 : Env := _; (?_ : wpAny _ (Around.deeper _ e9) (execs _ e9) _ _ _))
  refine (let B9 : Around := _; (?_ : wpAny _ B9 _ _ _ _))
  (rename Fr _ _ _ _ => lF)
  replace lF := fr_fold [((Str.ofString "shelf"), .ref sh)] lF (by tb_start)
  obtain ⟨u, lF⟩ := lF
  dsimp only [kstB] at lF
  k_with_none
  k_with "call!" => ((with_reducible show wpAny _ _ (call (Value.ref 443) _) _ _ _); k_dflt (refine' Ctr.use ?kC ?k1 ?k2 ?k3 ?k4 ?k5 ?kK ?kd ?ku ?_); (case k4 => k_asm); (case kC => k_dflt (exact layer_head_ok w _ kvs sh tr kvt kvr kvo rv ov (hsh.sub (by tb_rel)) (ht.sub (by tb_rel)) hr (hrd.sub (by tb_rel)) ho (hod.sub (by tb_rel)))); (case k1 => k_asm); (case k2 => k_asm); (case k3 => k_asm); (case k5 => k_asm); (case kK => first | exact rfl | assumption); (case kd => ktr_room); (case ku => ktr_units); intro r9 n9 h9 tk9 F9 N9 p9; (obtain ⟨e8, e9⟩ := p9; subst e8; subst e9); (try dsimp only); (try k_fold))
  k_with "call!" => ((with_reducible show wpAny _ _ (call (Value.ref 422) _) _ _ _); k_dflt (refine' Ctr.use ?kC ?k1 ?k2 ?k3 ?k4 ?k5 ?kK ?kd ?ku ?_); (case k4 => k_asm); (case kC => k_dflt (exact items_list w _ kvs sh tr ov kvo (Str.ofString "OCGs") _ gl (listOf glv.toArray gn) 0 (hsh.sub (by tb_rel)) (hod.sub (by tb_rel)) (by rw [hg1]; exact .here _) (by decide) (by k_mem) rfl)); (case k1 => k_asm); (case k2 => k_asm); (case k3 => k_asm); (case k5 => k_asm); (case kK => first | exact rfl | assumption); (case kd => ktr_room); (case ku => ktr_units); intro r9 n9 h9 tk9 F9 N9 p9; (obtain ⟨e8, e9⟩ := p9; subst e8; subst e9); (try dsimp only); (try k_fold))
  k_with "call!" => ((with_reducible show wpAny _ _ (call (Value.ref 436) _) _ _ _); k_dflt (refine' Ctr.use ?kC ?k1 ?k2 ?k3 ?k4 ?k5 ?kK ?kd ?ku ?_); (case k4 => k_asm); (case kC => k_dflt (exact groups_in_ok w _ kvs sh tr gl glv gn (hsh.sub (by tb_rel)) (by k_mem) hlen (fun i v hi => let ⟨a, b, c⟩ := hg i v hi; ⟨a, b, c.sub (by tb_rel)⟩))); (case k1 => k_asm); (case k2 => k_asm); (case k3 => k_asm); (case k5 => k_asm); (case kK => first | exact rfl | assumption); (case kd => ktr_room); (case ku => ktr_units); intro r9 n9 h9 tk9 F9 N9 p9; (obtain ⟨lf9, xs9, n39, e8, e9, hlt9, hxs9⟩ := p9; subst e8; subst e9); (try dsimp only); (try k_fold))
  k_steps
  all_goals (refine' hret _ _ _ _ ?e1 ?e2 ?e3; (case e1 => k_asm); (case e2 => k_asm); (case e3 => exact ⟨_, _, _, rfl, rfl, hlt9, hxs9⟩))
-- part Gl
theorem group_label_ok (w : World) (news : List (Addr × Obj)) (kvs : List (Int × Value)) (sh tr : Addr) (k : Int) (tk : Tok) (hv : Value) (kvh : List (Str × Value)) (nm : Array UInt8) (ws : List Str) (hsh : ShelfAt w news sh tr kvs) (hG : GrpAt w news kvs k hv kvh nm ws) : Ctr w 457 3 [.ref sh, .int k tk] news (fun r' n' => (∃ t, Value.bytes nm t = r') ∧ news = n') := by
  unfold Ctr
  k_fill
  k_with_none
  have hsh' := hsh
  obtain ⟨dsh, T, h1, k1, h2, k2, c, oT, m1, m2, m3, hDT, loT⟩ := hsh
  obtain ⟨⟨c0, v0, n, hc0, hcell, hres, hn⟩, hsd, _, ⟨sv, hsv, hst⟩, _⟩ := hG
  obtain ⟨tp, b1, b2, e2, m6⟩ := hcell
  subst e2
  have hst' := hst
  obtain ⟨sa, sda, s1, s2, s3, s4, s5, s6, es, ms1, ms2⟩ := hst
  subst es
  intros; rename_i hret
  refine (let A9 : Around := _; (?_ : wpAny _ A9 _ _ _ _))
  refine wpAny_call ?_
  k_dflt (refine' code_def ?k1 ?k2 ?k3 ?k4 ?k5 ?kA ?kF ?kK ?k6 ?k7 ?k8 ?k9 ?kB ?_ ?c2 ?c3 ?c4 ?c5; (case kA => exact rfl); (case kF => exact rfl); (case kK => first | assumption | exact rfl); (case k1 => k_asm); (case k2 => k_asm); (case k3 => k_asm); (case k4 => k_asm); (case k5 => k_asm); (case k6 => k_is); (case k7 => k_is); (case k8 => ktr_room); (case k9 => first | exact BindsTo.of_eq rfl | exact binds_K (by k_in) rfl (by k_is) rfl rfl rfl); (case c5 => decide); (case kB => exact locs rfl); (case c2 => exact rfl); (case c3 => exact rfl); (case c4 => exact rfl); k_whole; intro g' L' h' FG' F' N' B' X' T'; (try dsimp only); (try k_lift B'); (try k_fold))
  refine (let e9 : Env := _; (?_ : wpAny _ (Around.deeper _ e9) (execs _ e9) _ _ _))
  refine (let B9 : Around := _; (?_ : wpAny _ B9 _ _ _ _))
  (rename Fr _ _ _ _ => lF)
  replace lF := fr_fold [((Str.ofString "shelf"), .ref sh), ((Str.ofString "number"), .int k tk)] lF (by tb_start)
  obtain ⟨u, lF⟩ := lF
  dsimp only [kstB] at lF
  k_with_none
  k_with "dictget!" => (k_dflt (refine' kdg_get2 (knd := PySem.intKind _ _) ?N ?m hDT loT (intKind_is _ _ _ _) (some (.ref tp)) hc0 ?_); (case N => k_asm); (case m => k_mem); dsimp only [Option.getD])
  k_with "method!" => (k_dflt (refine' kdg_method (knd := PySem.intKind _ _) ?N ?m hDT ?_); (case N => k_asm); (case m => k_mem))
  k_with "method!" => (k_dflt (refine' method_inst ?k1 ?k2 ?k3 ?k4 ?k5 ?k6 ?k7 ?_); (case k1 => k_asm); (case k2 => k_asm); (case k3 => k_inst); (case k4 => k_is); (case k5 => k_is); (case k6 => k_is); (case k7 => k_get); k_whole)
  k_with "call!" => ((with_reducible show wpAny _ _ (call (Value.ref 313) _) _ _ _); k_dflt (refine' Ctr.use ?kC ?k1 ?k2 ?k3 ?k4 ?k5 ?kK ?kd ?ku ?_); (case k4 => k_asm); (case kC => k_dflt (exact fetch_ok w _ kvs sh tr v0 hv _ n (hsh'.sub (by tb_rel)) (hres.sub (by tb_rel)) (by omega) (hsd.knd.sub (by tb_rel)) (noRef_dict w))); (case k1 => k_asm); (case k2 => k_asm); (case k3 => k_asm); (case k5 => k_asm); (case kK => first | exact rfl | assumption); (case kd => ktr_room); (case ku => ktr_units); intro r9 n9 h9 tk9 F9 N9 p9; (obtain ⟨e8, e9⟩ := p9; subst e8; subst e9); (try dsimp only); (try k_fold))
  k_with "call!" => ((with_reducible show wpAny _ _ (call (Value.ref 320) _) _ _ _); k_dflt (refine' Ctr.use ?kC ?k1 ?k2 ?k3 ?k4 ?k5 ?kK ?kd ?ku ?_); (case k4 => k_asm); (case kC => k_dflt (exact get_ok w _ kvs sh tr hv _ _ kvh (Str.ofString "Name") _ 0 (hsh'.sub (by tb_rel)) (hsd.sub (by tb_rel)) (by rw [hsv]; exact .here _) (by decide) (hst'.knd.sub (by tb_rel)) (noRef_string w))); (case k1 => k_asm); (case k2 => k_asm); (case k3 => k_asm); (case k5 => k_asm); (case kK => first | exact rfl | assumption); (case kd => ktr_room); (case ku => ktr_units); intro r9 n9 h9 tk9 F9 N9 p9; (obtain ⟨e8, e9⟩ := p9; subst e8; subst e9); (try dsimp only); (try k_fold))
  k_with "isi!" => (k_dflt (refine' Knd.isi (b := true) ?k ?N ?X ?e ?_); (case N => k_asm); (case k => k_dflt (exact hsd.knd.sub (by tb_rel))); (case X => k_in); (case e => kit_is); k_whole; intro tk')
  k_with "isi!" => (k_dflt (refine' Knd.isi (b := true) ?k ?N ?X ?e ?_); (case N => k_asm); (case k => k_dflt (exact hst'.knd.sub (by tb_rel))); (case X => k_in); (case e => kit_is); k_whole; intro tk')
  k_steps
  all_goals (refine' hret _ _ _ _ ?e1 ?e2 ?e3; (case e1 => k_asm); (case e2 => exact cb_drop (news := news) (by k_asm) (by tb_rel)); (case e3 => exact ⟨⟨_, rfl⟩, rfl⟩))
-- part Pur
theorem purposes_none (w : World) (news : List (Addr × Obj)) (kvs : List (Int × Value)) (sh tr : Addr) (hv : Value) (kvh : List (Str × Value)) (hsh : ShelfAt w news sh tr kvs) (hd : StrDict w news hv kvh) (hi : (valueAt kvh (Str.ofString "Intent")).getD .none = .none) : Ctr w 462 4 [.ref sh, hv] news (fun r' n' => ∃ l xs n3, Value.ref l = r' ∧ (l, listOf xs.toArray n3) :: news = n' ∧ StrsAre xs [Str.ofString "View"]) := by
  unfold Ctr
  k_fill
  k_with_none
  have hsh' := hsh
  obtain ⟨dsh, T, h1, k1, h2, k2, c, oT, m1, m2, m3, hDT, loT⟩ := hsh
  intros; rename_i hret
  refine (let A9 : Around := _; (?_ : wpAny _ A9 _ _ _ _))
  refine wpAny_call ?_
  k_dflt (refine' code_defC ?k1 ?k2 ?k3 ?k4 ?k5 ?kA ?kF ?kK ?k6 ?k7 ?k8 ?k9 ?kB ?kD ?_ ?c2 ?c3 ?c4; (case kA => exact rfl); (case kF => exact rfl); (case kK => first | assumption | exact rfl); (case k1 => k_asm); (case k2 => k_asm); (case k3 => k_asm); (case k4 => k_asm); (case k5 => k_asm); (case k6 => k_is); (case k7 => k_is); (case k8 => ktr_room); (case k9 => first | exact BindsTo.of_eq rfl | exact binds_K (by k_in) rfl (by k_is) rfl rfl rfl); (case kB => exact rfl); (case kD => decide +kernel); (case c2 => exact rfl); (case c3 => exact rfl); (case c4 => exact rfl); k_whole; intro g' L' h' tk' cells' FG' F' N' Y' B' X' T' l1; k_cells Y'; (try simp only [List.cons_append, List.nil_append] at N'); (try dsimp only); (try k_lift B'); (try k_fold))
  refine (let e9 : Env := _; (?_ : wpAny _ (Around.deeper _ e9) (execs _ e9) _ _ _))
  refine (let B9 : Around := _; (?_ : wpAny _ B9 _ _ _ _))
  (rename Fr _ _ _ _ => lF)
  replace lF := fr_fold [((Str.ofString "head"), hv)] lF (by tb_start)
  obtain ⟨u, lF⟩ := lF
  dsimp only [kstB] at lF
  k_with_none
  k_with "method!" => (k_dflt (refine' method_inst ?k1 ?k2 ?k3 ?k4 ?k5 ?k6 ?k7 ?_); (case k1 => k_asm); (case k2 => k_asm); (case k3 => k_inst); (case k4 => k_is); (case k5 => k_is); (case k6 => k_is); (case k7 => k_get); k_whole)
  k_with "call!" => ((with_reducible show wpAny _ _ (call (Value.ref 320) _) _ _ _); k_dflt (refine' Ctr.use ?kC ?k1 ?k2 ?k3 ?k4 ?k5 ?kK ?kd ?ku ?_); (case k4 => k_asm); (case kC => k_dflt (exact get_ok w _ kvs sh tr hv _ _ kvh (Str.ofString "Intent") _ 0 (hsh'.sub (by tb_rel)) (hd.sub (by tb_rel)) (by rw [hi]; exact .here _) (by decide) (Knd.none) (noRef_none w))); (case k1 => k_asm); (case k2 => k_asm); (case k3 => k_asm); (case k5 => k_asm); (case kK => first | exact rfl | assumption); (case kd => ktr_room); (case ku => ktr_units); intro r9 n9 h9 tk9 F9 N9 p9; (obtain ⟨e8, e9⟩ := p9; subst e8; subst e9); (try dsimp only); (try k_fold))
  k_with "call!" => ((with_reducible show wpAny _ _ (call (Value.ref 422) _) _ _ _); k_dflt (refine' Ctr.use ?kC ?k1 ?k2 ?k3 ?k4 ?k5 ?kK ?kd ?ku ?_); (case k4 => k_asm); (case kC => k_dflt (exact items_none w _ kvs sh tr hv kvh (Str.ofString "Intent") _ 0 (hsh'.sub (by tb_rel)) (hd.sub (by tb_rel)) (by rw [hi]; exact .here _) (by decide))); (case k1 => k_asm); (case k2 => k_asm); (case k3 => k_asm); (case k5 => k_asm); (case kK => first | exact rfl | assumption); (case kd => ktr_room); (case ku => ktr_units); intro r9 n9 h9 tk9 F9 N9 p9; (obtain ⟨l9, n39, e8, e9, hlt9⟩ := p9; subst e8; subst e9); (try dsimp only); (try k_fold))
  k_with "compareOp NotEq ref ref" => (k_dflt (refine' ne_nil_L ?N ?ml ?mb ?u ?ht ?_); (case N => k_asm); (case ml => k_mem); (case mb => k_mem); (case u => ktr_units); (case ht => first | exact strs_ne hJ hne | exact rfl))
  k_steps
  unfold Held
  k_dflt (refine' compU_same (xs := []) (fun i ys => ys = []) (by rfl) ?F ?N ?m ?z ?j0 ?turn ?fin)
  case F => k_asm
  case N => k_asm
  case m => k_mem
  case z => simp
  case j0 => rfl
  case turn =>
    intro i v ys I oI C oC D m₂ h tk E' hv hJ hS hC hx F N o3 n3
    simp at hv
  case fin =>
    intro g9 ys hJ
    subst hJ
    unfold LCg.FinA
    intro D h tk F N o1
    k_steps
    unfold Held
    k_dflt (refine' compT_same (xs := []) (fun i ys => ys = []) (by rfl) ?F ?N ?m ?z ?j0 ?turn ?fin)
    case F => k_asm
    case N => k_asm
    case m => k_mem
    case z => simp
    case j0 => rfl
    case turn =>
      intro i v ys I oI C oC D m₂ h tk E' hv hJ hS hC hx F N o3 n3
      simp at hv
    case fin =>
      intro g9 ys hJ
      subst hJ
      unfold LCg.FinA
      intro D h tk F N o1
      k_steps
      all_goals (refine' hret _ _ _ _ ?e1 ?e2 ?e3; (case e1 => k_asm); (case e2 => exact cb_drop (news := (_, listOf (List.toArray _) _) :: news) (by k_asm) (by tb_rel)); (case e3 => exact ⟨_, _, _, rfl, rfl, .cons _ _ .nil⟩))

theorem purposes_one (w : World) (news : List (Addr × Obj)) (kvs : List (Int × Value)) (sh tr : Addr) (hv iv : Value) (kvh : List (Str × Value)) (hsh : ShelfAt w news sh tr kvs) (hd : StrDict w news hv kvh) (hi : (valueAt kvh (Str.ofString "Intent")).getD .none = iv) (x : Str) (hx : NameAt news iv x) : Ctr w 462 4 [.ref sh, hv] news (fun r' n' => ∃ l xs n3, Value.ref l = r' ∧ (l, listOf xs.toArray n3) :: news = n' ∧ StrsAre xs [x]) := by
  unfold Ctr
  k_fill
  k_with_none
  have hsh' := hsh
  obtain ⟨dsh, T, h1, k1, h2, k2, c, oT, m1, m2, m3, hDT, loT⟩ := hsh
  have hx' := hx
  obtain ⟨a, da, x1, x2, x3, x4, ex, mx1, mx2⟩ := hx
  subst ex
  intros; rename_i hret
  refine (let A9 : Around := _; (?_ : wpAny _ A9 _ _ _ _))
  refine wpAny_call ?_
  k_dflt (refine' code_defC ?k1 ?k2 ?k3 ?k4 ?k5 ?kA ?kF ?kK ?k6 ?k7 ?k8 ?k9 ?kB ?kD ?_ ?c2 ?c3 ?c4; (case kA => exact rfl); (case kF => exact rfl); (case kK => first | assumption | exact rfl); (case k1 => k_asm); (case k2 => k_asm); (case k3 => k_asm); (case k4 => k_asm); (case k5 => k_asm); (case k6 => k_is); (case k7 => k_is); (case k8 => ktr_room); (case k9 => first | exact BindsTo.of_eq rfl | exact binds_K (by k_in) rfl (by k_is) rfl rfl rfl); (case kB => exact rfl); (case kD => decide +kernel); (case c2 => exact rfl); (case c3 => exact rfl); (case c4 => exact rfl); k_whole; intro g' L' h' tk' cells' FG' F' N' Y' B' X' T' l1; k_cells Y'; (try simp only [List.cons_append, List.nil_append] at N'); (try dsimp only); (try k_lift B'); (try k_fold))
  refine (let e9 : Env := _; (?_ : wpAny _ (Around.deeper _ e9) (execs _ e9) _ _ _))
  refine (let B9 : Around := _; (?_ : wpAny _ B9 _ _ _ _))
  (rename Fr _ _ _ _ => lF)
  replace lF := fr_fold [((Str.ofString "head"), hv)] lF (by tb_start)
  obtain ⟨u, lF⟩ := lF
  dsimp only [kstB] at lF
  k_with_none
  k_with "method!" => (k_dflt (refine' method_inst ?k1 ?k2 ?k3 ?k4 ?k5 ?k6 ?k7 ?_); (case k1 => k_asm); (case k2 => k_asm); (case k3 => k_inst); (case k4 => k_is); (case k5 => k_is); (case k6 => k_is); (case k7 => k_get); k_whole)
  k_with "call!" => ((with_reducible show wpAny _ _ (call (Value.ref 320) _) _ _ _); k_dflt (refine' Ctr.use ?kC ?k1 ?k2 ?k3 ?k4 ?k5 ?kK ?kd ?ku ?_); (case k4 => k_asm); (case kC => k_dflt (exact get_ok w _ kvs sh tr hv _ _ kvh (Str.ofString "Intent") _ 0 (hsh'.sub (by tb_rel)) (hd.sub (by tb_rel)) (by rw [hi]; exact .here _) (by decide) (hx'.knd.sub (by tb_rel)) (noRef_name w))); (case k1 => k_asm); (case k2 => k_asm); (case k3 => k_asm); (case k5 => k_asm); (case kK => first | exact rfl | assumption); (case kd => ktr_room); (case ku => ktr_units); intro r9 n9 h9 tk9 F9 N9 p9; (obtain ⟨e8, e9⟩ := p9; subst e8; subst e9); (try dsimp only); (try k_fold))
  k_with "isi!" => (k_dflt (refine' Knd.isi (b := true) ?k ?N ?X ?e ?_); (case N => k_asm); (case k => k_dflt (exact hx'.knd.sub (by tb_rel))); (case X => k_in); (case e => kit_is); k_whole; intro tk')
  k_steps
  all_goals (refine' hret _ _ _ _ ?e1 ?e2 ?e3; (case e1 => k_asm); (case e2 => exact cb_drop (news := (_, listOf (List.toArray _) _) :: news) (by k_asm) (by tb_rel)); (case e3 => exact ⟨_, _, _, rfl, rfl, .cons _ _ .nil⟩))
theorem purposes_list (w : World) (news : List (Addr × Obj)) (kvs : List (Int × Value)) (sh tr : Addr) (hv iv : Value) (kvh : List (Str × Value)) (hsh : ShelfAt w news sh tr kvs) (hd : StrDict w news hv kvh) (hi : (valueAt kvh (Str.ofString "Intent")).getD .none = iv) (l : Addr) (n : Nat) (vs : List Value) (ws : List Str) (el : iv = .ref l) (hl : (l, listOf vs.toArray n) ∈ news) (hnm : NamesAre news vs ws) (hne : ws ≠ []) (hlen : ws.length ≤ 2) : Ctr w 462 4 [.ref sh, hv] news (fun r' n' => ∃ l xs n3, Value.ref l = r' ∧ (l, listOf xs.toArray n3) :: news = n' ∧ StrsAre xs ws) := by
  unfold Ctr
  k_fill
  k_with_none
  have hsh' := hsh
  obtain ⟨dsh, T, h1, k1, h2, k2, c, oT, m1, m2, m3, hDT, loT⟩ := hsh
  subst el
  intros; rename_i hret
  refine (let A9 : Around := _; (?_ : wpAny _ A9 _ _ _ _))
  refine wpAny_call ?_
  k_dflt (refine' code_defC ?k1 ?k2 ?k3 ?k4 ?k5 ?kA ?kF ?kK ?k6 ?k7 ?k8 ?k9 ?kB ?kD ?_ ?c2 ?c3 ?c4; (case kA => exact rfl); (case kF => exact rfl); (case kK => first | assumption | exact rfl); (case k1 => k_asm); (case k2 => k_asm); (case k3 => k_asm); (case k4 => k_asm); (case k5 => k_asm); (case k6 => k_is); (case k7 => k_is); (case k8 => ktr_room); (case k9 => first | exact BindsTo.of_eq rfl | exact binds_K (by k_in) rfl (by k_is) rfl rfl rfl); (case kB => exact rfl); (case kD => decide +kernel); (case c2 => exact rfl); (case c3 => exact rfl); (case c4 => exact rfl); k_whole; intro g' L' h' tk' cells' FG' F' N' Y' B' X' T' l1; k_cells Y'; (try simp only [List.cons_append, List.nil_append] at N'); (try dsimp only); (try k_lift B'); (try k_fold))
  refine (let e9 : Env := _; (?_ : wpAny _ (Around.deeper _ e9) (execs _ e9) _ _ _))
  refine (let B9 : Around := _; (?_ : wpAny _ B9 _ _ _ _))
  (rename Fr _ _ _ _ => lF)
  replace lF := fr_fold [((Str.ofString "head"), hv)] lF (by tb_start)
  obtain ⟨u, lF⟩ := lF
  dsimp only [kstB] at lF
  k_with_none
  k_with "method!" => (k_dflt (refine' method_inst ?k1 ?k2 ?k3 ?k4 ?k5 ?k6 ?k7 ?_); (case k1 => k_asm); (case k2 => k_asm); (case k3 => k_inst); (case k4 => k_is); (case k5 => k_is); (case k6 => k_is); (case k7 => k_get); k_whole)
  k_with "call!" => ((with_reducible show wpAny _ _ (call (Value.ref 320) _) _ _ _); k_dflt (refine' Ctr.use ?kC ?k1 ?k2 ?k3 ?k4 ?k5 ?kK ?kd ?ku ?_); (case k4 => k_asm); (case kC => k_dflt (exact get_ok w _ kvs sh tr hv _ _ kvh (Str.ofString "Intent") _ 0 (hsh'.sub (by tb_rel)) (hd.sub (by tb_rel)) (by rw [hi]; exact .here _) (by decide) ((Knd.list hl rfl).sub (by tb_rel)) (noRef_list w))); (case k1 => k_asm); (case k2 => k_asm); (case k3 => k_asm); (case k5 => k_asm); (case kK => first | exact rfl | assumption); (case kd => ktr_room); (case ku => ktr_units); intro r9 n9 h9 tk9 F9 N9 p9; (obtain ⟨e8, e9⟩ := p9; subst e8; subst e9); (try dsimp only); (try k_fold))
  k_with "call!" => ((with_reducible show wpAny _ _ (call (Value.ref 422) _) _ _ _); k_dflt (refine' Ctr.use ?kC ?k1 ?k2 ?k3 ?k4 ?k5 ?kK ?kd ?ku ?_); (case k4 => k_asm); (case kC => k_dflt (exact items_list w _ kvs sh tr hv kvh (Str.ofString "Intent") _ l _ 0 (hsh'.sub (by tb_rel)) (hd.sub (by tb_rel)) (by rw [hi]; exact .here _) (by decide) (by k_mem) rfl)); (case k1 => k_asm); (case k2 => k_asm); (case k3 => k_asm); (case k5 => k_asm); (case kK => first | exact rfl | assumption); (case kd => ktr_room); (case ku => ktr_units); intro r9 n9 h9 tk9 F9 N9 p9; (obtain ⟨e8, e9⟩ := p9; subst e8; subst e9); (try dsimp only); (try k_fold))
  k_with "isi!" => (k_dflt (refine' Knd.isi (b := false) ?k ?N ?X ?e ?_); (case N => k_asm); (case k => k_dflt (exact (Knd.list hl rfl).sub (by tb_rel))); (case X => k_in); (case e => kit_is); k_whole; intro tk')
  k_with "compareOp NotEq ref ref" => (k_dflt (refine' ne_nil_L ?N ?ml ?mb ?u ?ht ?_); (case N => k_asm); (case ml => k_mem); (case mb => k_mem); (case u => ktr_units); (case ht => first | exact strs_ne hJ hne | exact rfl))
  k_steps
  unfold Held
  k_dflt (refine' compU_same (xs := vs) (fun i ys => ys = vs.take i) (by rfl) ?F ?N ?m ?z ?j0 ?turn ?fin)
  case F => k_asm
  case N => k_asm
  case m => k_mem
  case z => (have h9 := hnm.length; omega)
  case j0 => rfl
  case turn =>
    intro i v ys I oI C oC D m₂ h tk E' hv hJ hS hC hx F N o3 n3
    subst hJ
    have hi9 := hv
    obtain ⟨x, hxw, hxn⟩ := hnm.get hv
    k_with "method!" => (k_dflt (refine' method_inst ?k1 ?k2 ?k3 ?k4 ?k5 ?k6 ?k7 ?_); (case k1 => k_asm); (case k2 => k_asm); (case k3 => k_inst); (case k4 => k_is); (case k5 => k_is); (case k6 => k_is); (case k7 => k_get); k_whole)
    k_with "call!" => ((with_reducible show wpAny _ _ (call (Value.ref 313) _) _ _ _); k_dflt (refine' Ctr.use ?kC ?k1 ?k2 ?k3 ?k4 ?k5 ?kK ?kd ?ku ?_); (case k4 => k_asm); (case kC => k_dflt (exact fetch_ok w _ kvs sh tr v v _ 0 (hsh'.sub (by tb_rel)) (.here _) (by omega) (hxn.knd.sub (by tb_rel)) (noRef_name w))); (case k1 => k_asm); (case k2 => k_asm); (case k3 => k_asm); (case k5 => k_asm); (case kK => first | exact rfl | assumption); (case kd => ktr_room); (case ku => ktr_units); intro r9 n9 h9 tk9 F9 N9 p9; (obtain ⟨e8, e9⟩ := p9; subst e8; subst e9); (try dsimp only); (try k_fold))
    k_steps
    unfold Held
    (k_dflt (refine' end_same ?F ?N ?sub ?off ?hS ?r); (case F => k_asm); (case N => k_asm); (case sub => tb_rel); (case off => assumption); (case hS => assumption); (case r => exact (take_snoc hi9).symm))
  case fin =>
    intro g9 ys hJ
    rw [List.take_length] at hJ
    subst hJ
    unfold LCg.FinA
    intro D h tk F N o1
    k_steps
    unfold Held
    k_dflt (refine' compT_same (xs := ys) (fun i ys => StrsAre ys (ws.take i)) (by rfl) ?F ?N ?m ?z ?j0 ?turn ?fin)
    case F => k_asm
    case N => k_asm
    case m => k_mem
    case z => (have h9 := hnm.length; omega)
    case j0 => exact .nil
    case turn =>
      intro i v ys I oI C oC D m₂ h tk E' hv hJ hS hC hx F N o3 n3
      have hi9 := hv
      obtain ⟨x, hxw, hxn⟩ := hnm.get hv
      have hxn' := hxn
      obtain ⟨a, da, x1, x2, x3, x4, ex, mx1, mx2⟩ := hxn
      subst ex
      k_with "isi!" => (k_dflt (refine' Knd.isi (b := true) ?k ?N ?X ?e ?_); (case N => k_asm); (case k => k_dflt (exact hxn'.knd.sub (by tb_rel))); (case X => k_in); (case e => kit_is); k_whole; intro tk')
      k_steps
      unfold Held
      (k_dflt (refine' end_same ?F ?N ?sub ?off ?hS ?r); (case F => k_asm); (case N => k_asm); (case sub => tb_rel); (case off => assumption); (case hS => assumption); (case r => (rw [take_snoc hxw]; exact kct_snoc hJ)))
    case fin =>
      intro g9 ys hJ
      rw [hnm.length, List.take_length] at hJ
      unfold LCg.FinA
      intro D h tk F N o1
      k_steps
      all_goals (refine' hret _ _ _ _ ?e1 ?e2 ?e3; (case e1 => k_asm); (case e2 => exact cb_drop (news := (D, _) :: news) (by k_asm) (by tb_rel)); (case e3 => exact ⟨_, _, _, rfl, rfl, hJ⟩))
theorem purposes_ok (w : World) (news : List (Addr × Obj)) (kvs : List (Int × Value)) (sh tr : Addr) (hv iv : Value) (kvh : List (Str × Value)) (hsh : ShelfAt w news sh tr kvs) (hd : StrDict w news hv kvh) (hi : (valueAt kvh (Str.ofString "Intent")).getD .none = iv) (ws : List Str) (hI : IntentAt news iv ws) : Ctr w 462 4 [.ref sh, hv] news (fun r' n' => ∃ l xs n3, Value.ref l = r' ∧ (l, listOf xs.toArray n3) :: news = n' ∧ StrsAre xs (wordsOr ws)) := by
  cases hI with
  | none => exact purposes_none w news kvs sh tr hv kvh hsh hd hi
  | one a => exact purposes_one w news kvs sh tr hv _ kvh hsh hd hi _ a
  | list a b c d =>
    have e : wordsOr ws = ws := if_neg c
    rw [e]
    exact purposes_list w news kvs sh tr hv _ kvh hsh hd hi _ _ _ _ rfl a b c d
-- part Conf
inductive ConfAt (news : List (Addr × Obj)) (v : Value) (ws : List Str) : Prop
  | mk (cf dcf h1 h2 h3 h4 h5 h6 h7 k1 k2 k3 k4 k5 k6 k7 v1 v2 v3 v4 v5 v6 lw xs n c : _) (e0 : v = .ref cf) (e1 : (cf, instObj 479 dcf) ∈ news) (e2 : (dcf, dictOf [⟨h1, .str (Str.ofString "base") k1, v1⟩, ⟨h2, .str (Str.ofString "on") k2, v2⟩, ⟨h3, .str (Str.ofString "off") k3, v3⟩, ⟨h4, .str (Str.ofString "radio") k4, v4⟩, ⟨h5, .str (Str.ofString "locked") k5, v5⟩, ⟨h6, .str (Str.ofString "order") k6, v6⟩, ⟨h7, .str (Str.ofString "words") k7, .ref lw⟩] c) ∈ news) (e3 : (lw, listOf xs.toArray n) ∈ news) (e4 : StrsAre xs ws)
theorem ConfAt.sub {l l' : List (Addr × Obj)} (hs : ∀ p ∈ l, p ∈ l') {v : Value} {ws : List Str} : ConfAt l v ws → ConfAt l' v ws :=
  fun ⟨a1, a2, a3, a4, a5, a6, a7, a8, a9, a10, a11, a12, a13, a14, a15, a16, a17, a18, a19, a20, a21, a22, a23, a24, a25, a26, e, m1, m2, m3, x⟩ => ⟨a1, a2, a3, a4, a5, a6, a7, a8, a9, a10, a11, a12, a13, a14, a15, a16, a17, a18, a19, a20, a21, a22, a23, a24, a25, a26, e, hs _ m1, hs _ m2, hs _ m3, x⟩
theorem configuration_of_ok (w : World) (news : List (Addr × Obj)) (kvs : List (Int × Value)) (sh tr : Addr) (hv iv : Value) (kvh : List (Str × Value)) (ws : List Str) (hsh : ShelfAt w news sh tr kvs) (hd : StrDict w news hv kvh) (hi : (valueAt kvh (Str.ofString "Intent")).getD .none = iv) (hI : IntentAt news iv ws) (ho : ∀ k : Str, (k == Str.ofString "Intent") = false → (valueAt kvh k).getD .none = .none) : Ctr w 488 6 [.ref sh, hv] news (fun r' n' => ∃ pre, pre ++ news = n' ∧ ConfAt (pre ++ news) r' (wordsOr ws)) := by
  unfold Ctr
  k_fill
  k_with_none
  have hsh' := hsh
  obtain ⟨dsh, T, h1, k1, h2, k2, c, oT, m1, m2, m3, hDT, loT⟩ := hsh
  intros; rename_i hret
  refine (let A9 : Around := _; (?_ : wpAny _ A9 _ _ _ _))
  refine wpAny_call ?_
  k_dflt (refine' code_defC ?k1 ?k2 ?k3 ?k4 ?k5 ?kA ?kF ?kK ?k6 ?k7 ?k8 ?k9 ?kB ?kD ?_ ?c2 ?c3 ?c4; (case kA => exact rfl); (case kF => exact rfl); (case kK => first | assumption | exact rfl); (case k1 => k_asm); (case k2 => k_asm); (case k3 => k_asm); (case k4 => k_asm); (case k5 => k_asm); (case k6 => k_is); (case k7 => k_is); (case k8 => ktr_room); (case k9 => first | exact BindsTo.of_eq rfl | exact binds_K (by k_in) rfl (by k_is) rfl rfl rfl); (case kB => exact rfl); (case kD => decide +kernel); (case c2 => exact rfl); (case c3 => exact rfl); (case c4 => exact rfl); k_whole; intro g' L' h' tk' cells' FG' F' N' Y' B' X' T' l1; k_cells Y'; (try simp only [List.cons_append, List.nil_append] at N'); (try dsimp only); (try k_lift B'); (try k_fold))
  refine (let e9 : Env := _; (?_ : wpAny _ (Around.deeper _ e9) (execs _ e9) _ _ _))
  refine (let B9 : Around := _; (?_ : wpAny _ B9 _ _ _ _))
  (rename Fr _ _ _ _ => lF)
  replace lF := fr_fold [((Str.ofString "head"), hv)] lF (by tb_start)
  obtain ⟨u, lF⟩ := lF
  dsimp only [kstB] at lF
  k_with_none
  k_with "call!" => ((with_reducible show wpAny _ _ (call (Value.ref 422) _) _ _ _); k_dflt (refine' Ctr.use ?kC ?k1 ?k2 ?k3 ?k4 ?k5 ?kK ?kd ?ku ?_); (case k4 => k_asm); (case kC => k_dflt (exact items_none w _ kvs sh tr hv kvh _ _ 0 (hsh'.sub (by tb_rel)) (hd.sub (by tb_rel)) (by rw [ho _ (by decide)]; exact .here _) (by decide))); (case k1 => k_asm); (case k2 => k_asm); (case k3 => k_asm); (case k5 => k_asm); (case kK => first | exact rfl | assumption); (case kd => ktr_room); (case ku => ktr_units); intro r9 n9 h9 tk9 F9 N9 p9; (obtain ⟨l9, n39, e8, e9, hlt9⟩ := p9; subst e8; subst e9); (try dsimp only); (try k_fold))
  k_with "call!" => ((with_reducible show wpAny _ _ (call (Value.ref 415) _) _ _ _); k_dflt (refine' Ctr.use ?kC ?k1 ?k2 ?k3 ?k4 ?k5 ?kK ?kd ?ku ?_); (case k4 => k_asm); (case kC => k_dflt (exact word_none w _ kvs sh tr hv kvh (Str.ofString "BaseState") _ _ 0 (hsh'.sub (by tb_rel)) (hd.sub (by tb_rel)) (by rw [ho _ (by decide)]; exact .here _) (by decide))); (case k1 => k_asm); (case k2 => k_asm); (case k3 => k_asm); (case k5 => k_asm); (case kK => first | exact rfl | assumption); (case kd => ktr_room); (case ku => ktr_units); intro r9 n9 h9 tk9 F9 N9 p9; (obtain ⟨e8, e9⟩ := p9; subst e8; subst e9); (try dsimp only); (try k_fold))
  k_with "call!" => ((with_reducible show wpAny _ _ (call (Value.ref 436) _) _ _ _); k_dflt (refine' Ctr.use ?kC ?k1 ?k2 ?k3 ?k4 ?k5 ?kK ?kd ?ku ?_); (case k4 => k_asm); (case kC => k_dflt (exact groups_in_ok w _ kvs sh tr _ [] _ (hsh'.sub (by tb_rel)) (by k_mem) (by simp) (by intro i v h; simp at h))); (case k1 => k_asm); (case k2 => k_asm); (case k3 => k_asm); (case k5 => k_asm); (case kK => first | exact rfl | assumption); (case kd => ktr_room); (case ku => ktr_units); intro r9 n9 h9 tk9 F9 N9 p9; (obtain ⟨l9, xs9, n39, e8, e9, hlt9, hx9⟩ := p9; subst e8; subst e9); (try dsimp only); (try k_fold))
  k_with "call!" => ((with_reducible show wpAny _ _ (call (Value.ref 462) _) _ _ _); k_dflt (refine' Ctr.use ?kC ?k1 ?k2 ?k3 ?k4 ?k5 ?kK ?kd ?ku ?_); (case k4 => k_asm); (case kC => k_dflt (exact purposes_ok w _ kvs sh tr hv _ kvh (hsh'.sub (by tb_rel)) (hd.sub (by tb_rel)) hi ws (hI.sub (by tb_rel)))); (case k1 => k_asm); (case k2 => k_asm); (case k3 => k_asm); (case k5 => k_asm); (case kK => first | exact rfl | assumption); (case kd => ktr_room); (case ku => ktr_units); intro r9 n9 h9 tk9 F9 N9 p9; (obtain ⟨l9, xs9, n39, e8, e9, hx9⟩ := p9; subst e8; subst e9); (try dsimp only); (try k_fold))
  k_steps
  unfold Held
  k_dflt (refine' compU_same (xs := []) (fun i ys => ys = []) (by rfl) ?F ?N ?m ?z ?j0 ?turn ?fin)
  case F => k_asm
  case N => k_asm
  case m => k_mem
  case z => simp
  case j0 => rfl
  case turn =>
    intro i v ys I oI C oC D m₂ h tk E' hv hJ hS hC hx F N o3 n3
    simp at hv
  case fin =>
    intro g9 ys hJ
    subst hJ
    unfold LCg.FinA
    intro D h tk F N o1
    k_steps
    unfold Held
    k_dflt (refine' compT_same (xs := []) (fun i ys => ys = []) (by rfl) ?F ?N ?m ?z ?j0 ?turn ?fin)
    case F => k_asm
    case N => k_asm
    case m => k_mem
    case z => simp
    case j0 => rfl
    case turn =>
      intro i v ys I oI C oC D m₂ h tk E' hv hJ hS hC hx F N o3 n3
      simp at hv
    case fin =>
      intro g9 ys hJ
      subst hJ
      unfold LCg.FinE
      intro D h tk F N o1
      k_steps
      all_goals (refine' hret _ _ _ _ ?e1 ?e2 ?e3; (case e1 => k_asm); (case e2 => k_asm); (case e3 => exact ⟨[_, _, _, _, _, _, _, _, _, _, _, _, _, _], rfl, ⟨_, _, _, _, _, _, _, _, _, _, _, _, _, _, _, _, _, _, _, _, _, _, _, _, _, _, rfl, by k_mem, by k_mem, by k_mem, hx9⟩⟩))

theorem configuration_ok (w : World) (news : List (Addr × Obj)) (sh : Addr) (kvs : List (Int × Value)) (gl : Addr) (glv : List Value) (gn : Nat) (fv iv : Value) (kvf : List (Str × Value)) (ws : List Str) (hT : TopAt w news sh kvs gl glv gn fv kvf) (hi : (valueAt kvf (Str.ofString "Intent")).getD .none = iv) (hI : IntentAt news iv ws) (ho : ∀ k : Str, (k == Str.ofString "Intent") = false → (valueAt kvf k).getD .none = .none) : Ctr w 494 8 [.ref sh] news (fun r' n' => ∃ pre, pre ++ news = n' ∧ ConfAt (pre ++ news) r' (wordsOr ws)) := by
  unfold Ctr
  k_fill
  k_with_none
  have hT' := hT
  obtain ⟨tr, kvt, rv, kvr, ov, kvo, hsh, ht, hr, hrd, hop, hod, hg1, hg2, hf1, hf2⟩ := hT
  have hsh' := hsh
  obtain ⟨dsh, T, h1, k1, h2, k2, c, oT, m1, m2, m3, hDT, loT⟩ := hsh
  intros; rename_i hret
  refine (let A9 : Around := _; (?_ : wpAny _ A9 _ _ _ _))
  refine wpAny_call ?_
  k_dflt (refine' code_defC ?k1 ?k2 ?k3 ?k4 ?k5 ?kA ?kF ?kK ?k6 ?k7 ?k8 ?k9 ?kB ?kD ?_ ?c2 ?c3 ?c4; (case kA => exact rfl); (case kF => exact rfl); (case kK => first | assumption | exact rfl); (case k1 => k_asm); (case k2 => k_asm); (case k3 => k_asm); (case k4 => k_asm); (case k5 => k_asm); (case k6 => k_is); (case k7 => k_is); (case k8 => ktr_room); (case k9 => first | exact BindsTo.of_eq rfl | exact binds_K (by k_in) rfl (by k_is) rfl rfl rfl); (case kB => exact rfl); (case kD => decide +kernel); (case c2 => exact rfl); (case c3 => exact rfl); (case c4 => exact rfl); k_whole; intro g' L' h' tk' cells' FG' F' N' Y' B' X' T' l1; k_cells Y'; (try simp only [List.cons_append, List.nil_append] at N'); (try dsimp only); (try k_lift B'); (try k_fold))
  refine (let e9 : Env := _; (?_ : wpAny _ (Around.deeper _ e9) (execs _ e9) _ _ _))
  refine (let B9 : Around := _; (?_ : wpAny _ B9 _ _ _ _))
  (rename Fr _ _ _ _ => lF)
  replace lF := fr_fold [((Str.ofString "index"), .int (-1) _)] lF (by tb_start)
  obtain ⟨u, lF⟩ := lF
  dsimp only [kstB] at lF
  k_with_none
  k_with "method!" => (k_dflt (refine' method_inst ?k1 ?k2 ?k3 ?k4 ?k5 ?k6 ?k7 ?_); (case k1 => k_asm); (case k2 => k_asm); (case k3 => k_inst); (case k4 => k_is); (case k5 => k_is); (case k6 => k_is); (case k7 => k_get); k_whole)
  k_with "call!" => ((with_reducible show wpAny _ _ (call (Value.ref 443) _) _ _ _); k_dflt (refine' Ctr.use ?kC ?k1 ?k2 ?k3 ?k4 ?k5 ?kK ?kd ?ku ?_); (case k4 => k_asm); (case kC => k_dflt (exact layer_head_ok w _ kvs sh tr kvt kvr kvo rv ov (hsh'.sub (by tb_rel)) (ht.sub (by tb_rel)) hr (hrd.sub (by tb_rel)) hop (hod.sub (by tb_rel)))); (case k1 => k_asm); (case k2 => k_asm); (case k3 => k_asm); (case k5 => k_asm); (case kK => first | exact rfl | assumption); (case kd => ktr_room); (case ku => ktr_units); intro r9 n9 h9 tk9 F9 N9 p9; (obtain ⟨e8, e9⟩ := p9; subst e8; subst e9); (try dsimp only); (try k_fold))
  k_with "call!" => ((with_reducible show wpAny _ _ (call (Value.ref 320) _) _ _ _); k_dflt (refine' Ctr.use ?kC ?k1 ?k2 ?k3 ?k4 ?k5 ?kK ?kd ?ku ?_); (case k4 => k_asm); (case kC => k_dflt (exact get_ok w _ kvs sh tr ov _ _ kvo (Str.ofString "D") _ 0 (hsh'.sub (by tb_rel)) (hod.sub (by tb_rel)) (by rw [hf1]; exact .here _) (by decide) (hf2.knd.sub (by tb_rel)) (noRef_dict w))); (case k1 => k_asm); (case k2 => k_asm); (case k3 => k_asm); (case k5 => k_asm); (case kK => first | exact rfl | assumption); (case kd => ktr_room); (case ku => ktr_units); intro r9 n9 h9 tk9 F9 N9 p9; (obtain ⟨e8, e9⟩ := p9; subst e8; subst e9); (try dsimp only); (try k_fold))
  k_with "isi!" => (k_dflt (refine' Knd.isi (b := true) ?k ?N ?X ?e ?_); (case N => k_asm); (case k => k_dflt (exact hf2.knd.sub (by tb_rel))); (case X => k_in); (case e => kit_is); k_whole; intro tk')
  k_with "call!" => ((with_reducible show wpAny _ _ (call (Value.ref 488) _) _ _ _); k_dflt (refine' Ctr.use ?kC ?k1 ?k2 ?k3 ?k4 ?k5 ?kK ?kd ?ku ?_); (case k4 => k_asm); (case kC => k_dflt (exact configuration_of_ok w _ kvs sh tr fv iv kvf ws (hsh'.sub (by tb_rel)) (hf2.sub (by tb_rel)) hi (hI.sub (by tb_rel)) ho)); (case k1 => k_asm); (case k2 => k_asm); (case k3 => k_asm); (case k5 => k_asm); (case kK => first | exact rfl | assumption); (case kd => ktr_room); (case ku => ktr_units); intro r9 n9 h9 tk9 F9 N9 p9; (obtain ⟨pre9, e8, hc9⟩ := p9; subst e8); (try dsimp only); (try k_fold))
  k_steps
  all_goals (refine' hret _ _ _ _ ?e1 ?e2 ?e3; (case e1 => k_asm); (case e2 => k_asm); (case e3 => exact (by refine ⟨pre9 ++ [_], List.append_assoc pre9 [_] news, ?_⟩; rw [List.append_assoc]; exact hc9)))
section
set_option hygiene false in
local macro_rules | `(tactic| walk_at "exec While") => `(tactic| (k_here; k_dflt (refine whl_start 100 ?_)))
set_option hygiene false in
local macro_rules | `(tactic| walk_at "exec While BoolOp") => `(tactic| (k_here; k_dflt (refine whl_start 100 ?_)))
-- part Mk
inductive OpAt (news : List (Addr × Obj)) (v : Value) (x : Str) (l : Addr) : Prop
  | mk (a da h1 k1 t1 h2 k2 c : _) (e0 : v = .ref a) (e1 : (a, instObj 401 da) ∈ news) (e2 : (da, dictOf [⟨h1, .str (Str.ofString "word") k1, .str x t1⟩, ⟨h2, .str (Str.ofString "operands") k2, .ref l⟩] c) ∈ news)
theorem OpAt.sub {l l' : List (Addr × Obj)} (hs : ∀ p ∈ l, p ∈ l') {v : Value} {x : Str} {a : Addr} : OpAt l v x a → OpAt l' v x a := fun ⟨a, b, c, d, e, f, g, h, i, j, k⟩ => ⟨a, b, c, d, e, f, g, h, i, hs _ j, hs _ k⟩
inductive DecAt (news : List (Addr × Obj)) (v : Value) (top places : Int) : Prop
  | mk (a da h1 k1 t1 h2 k2 t2 c : _) (e0 : v = .ref a) (e1 : (a, instObj 155 da) ∈ news) (e2 : (da, dictOf [⟨h1, .str (Str.ofString "top") k1, .int top t1⟩, ⟨h2, .str (Str.ofString "places") k2, .int places t2⟩] c) ∈ news)
theorem DecAt.sub {l l' : List (Addr × Obj)} (hs : ∀ p ∈ l, p ∈ l') {v : Value} {x y : Int} : DecAt l v x y → DecAt l' v x y := fun ⟨a, b, c, d, e, f, g, h, i, j, k, m⟩ => ⟨a, b, c, d, e, f, g, h, i, j, hs _ k, hs _ m⟩
theorem name_mk (w : World) (news : List (Addr × Obj)) (x : Str) (t : Tok) : Ctr w 190 2 [.str x t] news (fun r' n' => ∃ pre, pre ++ news = n' ∧ NameAt pre r' x ∧ Apart pre news) := by
  unfold Ctr
  k_fill
  k_with_none
  intros; rename_i hret
  k_with_none
  k_steps
  (rename (∀ p ∈ news, p.1 < _) => l1); (rename (_ < _) => l2)
  (refine' hret _ _ _ _ ?e1 ?e2 ?e3; (case e1 => k_asm); (case e2 => k_asm); (case e3 => exact ⟨[_, _], rfl, ⟨_, _, _, _, _, _, rfl, List.Mem.head _, List.Mem.tail _ (List.Mem.head _)⟩, apart2 l1 l2⟩))
theorem string_mk (w : World) (news : List (Addr × Obj)) (x : Array UInt8) (t : Tok) : Ctr w 212 2 [.bytes x t] news (fun r' n' => ∃ pre, pre ++ news = n' ∧ StringAt pre r' x ∧ Apart pre news) := by
  unfold Ctr
  k_fill
  k_with_none
  intros; rename_i hret
  k_with_none
  k_steps
  (rename (∀ p ∈ news, p.1 < _) => l1); (rename (_ < _) => l2)
  (refine' hret _ _ _ _ ?e1 ?e2 ?e3; (case e1 => k_asm); (case e2 => k_asm); (case e3 => exact ⟨[_, _], rfl, ⟨_, _, _, _, _, _, _, _, rfl, List.Mem.head _, List.Mem.tail _ (List.Mem.head _)⟩, apart2 l1 l2⟩))
theorem ref_mk (w : World) (news : List (Addr × Obj)) (k : Int) (t t0 : Tok) : Ctr w 261 2 [.int k t, .int 0 t0] news (fun r' n' => ∃ pre, pre ++ news = n' ∧ RefAt pre r' k ∧ Apart pre news) := by
  unfold Ctr
  k_fill
  k_with_none
  intros; rename_i hret
  k_with_none
  k_steps
  (rename (∀ p ∈ news, p.1 < _) => l1); (rename (_ < _) => l2)
  (refine' hret _ _ _ _ ?e1 ?e2 ?e3; (case e1 => k_asm); (case e2 => k_asm); (case e3 => exact ⟨[_, _], rfl, ⟨_, _, _, _, _, _, _, _, _, rfl, List.Mem.head _, List.Mem.tail _ (List.Mem.head _)⟩, apart2 l1 l2⟩))
theorem op_mk (w : World) (news : List (Addr × Obj)) (x : Str) (t : Tok) (l : Addr) : Ctr w 401 2 [.str x t, .ref l] news (fun r' n' => ∃ pre, pre ++ news = n' ∧ OpAt pre r' x l ∧ Apart pre news) := by
  unfold Ctr
  k_fill
  k_with_none
  intros; rename_i hret
  k_with_none
  k_steps
  (rename (∀ p ∈ news, p.1 < _) => l1); (rename (_ < _) => l2)
  (refine' hret _ _ _ _ ?e1 ?e2 ?e3; (case e1 => k_asm); (case e2 => k_asm); (case e3 => exact ⟨[_, _], rfl, ⟨_, _, _, _, _, _, _, _, rfl, List.Mem.head _, List.Mem.tail _ (List.Mem.head _)⟩, apart2 l1 l2⟩))
theorem dec0_mk (w : World) (news : List (Addr × Obj)) (k : Int) (t t0 : Tok) : Ctr w 155 2 [.int k t, .int 0 t0] news (fun r' n' => ∃ pre, pre ++ news = n' ∧ DecAt pre r' k 0 ∧ Apart pre news) := by
  unfold Ctr
  k_fill
  k_with_none
  intros; rename_i hret
  k_with_none
  k_steps
  (rename (∀ p ∈ news, p.1 < _) => l1); (rename (_ < _) => l2)
  (refine' hret _ _ _ _ ?e1 ?e2 ?e3; (case e1 => k_asm); (case e2 => k_asm); (case e3 => exact ⟨[_, _], rfl, ⟨_, _, _, _, _, _, _, _, _, rfl, List.Mem.head _, List.Mem.tail _ (List.Mem.head _)⟩, apart2 l1 l2⟩))
theorem dec1_mk (w : World) (news : List (Addr × Obj)) (k : Int) (t t0 : Tok) (hk : k.fmod 10 ≠ 0) : Ctr w 155 2 [.int k t, .int 1 t0] news (fun r' n' => ∃ pre, pre ++ news = n' ∧ DecAt pre r' k 1 ∧ Apart pre news) := by
  unfold Ctr
  k_fill
  k_with_none
  intros; rename_i hret
  k_with_none
  k_steps
  case' _ => exact absurd (by assumption) hk
  (rename (∀ p ∈ news, p.1 < _) => l1); (rename (_ < _) => l2)
  (refine' hret _ _ _ _ ?e1 ?e2 ?e3; (case e1 => k_asm); (case e2 => k_asm); (case e3 => exact ⟨[_, _], rfl, ⟨_, _, _, _, _, _, _, _, _, rfl, List.Mem.head _, List.Mem.tail _ (List.Mem.head _)⟩, apart2 l1 l2⟩))
end
end
section
set_option hygiene false in
local macro_rules | `(tactic| tb_rel) => `(tactic| (refine Sub.to ?_; kt_at_notin))
local macro_rules | `(tactic| k_updF) => `(tactic| first | (refine' UpdF.head ?a; (case a => k_all)) | (refine' UpdF.app ?a ?b; (case a => k_all); (case b => k_updF)) | (refine' UpdF.tail ?a ?b; (case a => k_ne); (case b => k_updF)))
set_option hygiene false in
local macro_rules | `(tactic| walk_at "KdnMade") => `(tactic| k_extra "KdnMade")
set_option hygiene false in
local macro_rules | `(tactic| walk_at "compareOp NotEq ref ref") => `(tactic| k_extra "compareOp NotEq ref ref")
set_option hygiene false in
local macro_rules | `(tactic| walk_at "binaryOp Mult ref int") => `(tactic| k_extra "binaryOp Mult ref int")
set_option hygiene false in
local macro_rules | `(tactic| walk_at "call type:bytes") => `(tactic| k_extra "call type:bytes")
section
set_option hygiene false in
local macro_rules | `(tactic| kt_at_method) => `(tactic| first | (apply NeAll.of; with_reducible assumption) | with_reducible apply NeAll.nil | (with_reducible apply NeAll.ofLt; simp only [AllLt, and_true]; with_reducible assumption) | ((with_reducible apply NeAll.cons); (focus k_ne); kt_at_method) | ((with_reducible apply NeAll.app); (focus kt_at_method); kt_at_method) | (apply NeAll.of; exact Apart.ne (by with_reducible assumption) (by k_mem)))
-- part Put
def CellO (o : Obj) (v : Value) : Prop := ∃ t n, o = tupO [.int 0 t, v] n
theorem CellO.cell {l : List (Addr × Obj)} {tp : Addr} {o : Obj} {v : Value} (h : CellO o v) (hm : (tp, o) ∈ l) : Cell l (.ref tp) v := let ⟨t, n, e⟩ := h; ⟨tp, t, n, rfl, e ▸ hm⟩
theorem put_ok (w : World) (rest : List (Addr × Obj)) (kvs : List (Int × Value)) (sh tr dsh T : Addr) (oT : Obj) (h1 h2 : Int) (k1 k2 : Tok) (c : Nat) (k : Int) (tk t0 : Tok) (v : Value) (m1 : (sh, instObj 377 dsh) ∈ rest) (m2 : (dsh, dictOf [⟨h1, .str (Str.ofString "table") k1, .ref T⟩, ⟨h2, .str (Str.ofString "trailer") k2, .ref tr⟩] c) ∈ rest) (hD : oT.IsDictOf (PySem.intKind PySem.Challenge.rw_qd0128_01.prog w) kvs) (hne : ∀ p ∈ rest, p.1 ≠ T) (hsz : kvs.length ≤ 1000) : Ctr w 341 1 [.ref sh, .int k tk, .int 0 t0, v] ((T, oT) :: rest) (fun r' n' => Value.none = r' ∧ ∃ o' tp ot, (T, o') :: (tp, ot) :: rest = n' ∧ CellO ot v ∧ o'.IsDictOf (PySem.intKind PySem.Challenge.rw_qd0128_01.prog w) (stored kvs k (.ref tp)) ∧ (∀ p ∈ (T, oT) :: rest, p.1 < tp)) := by
  unfold Ctr
  k_fill
  k_with_none
  intros; rename_i hret
  refine (let A9 : Around := _; (?_ : wpAny _ A9 _ _ _ _))
  refine wpAny_call ?_
  k_dflt (refine' code_def ?k1 ?k2 ?k3 ?k4 ?k5 ?kA ?kF ?kK ?k6 ?k7 ?k8 ?k9 ?kB ?_ ?c2 ?c3 ?c4 ?c5; (case kA => exact rfl); (case kF => exact rfl); (case kK => first | assumption | exact rfl); (case k1 => k_asm); (case k2 => k_asm); (case k3 => k_asm); (case k4 => k_asm); (case k5 => k_asm); (case k6 => k_is); (case k7 => k_is); (case k8 => ktr_room); (case k9 => first | exact BindsTo.of_eq rfl | exact binds_K (by k_in) rfl (by k_is) rfl rfl rfl); (case c5 => decide); (case kB => exact locs rfl); (case c2 => exact rfl); (case c3 => exact rfl); (case c4 => exact rfl); k_whole; intro g' L' h' FG' F' N' B' X' T'; (try dsimp only); (try k_lift B'); (try k_fold))
  refine (let e9 : Env := _; (?_ : wpAny _ (Around.deeper _ e9) (execs _ e9) _ _ _))
  refine (let B9 : Around := _; (?_ : wpAny _ B9 _ _ _ _))
  (rename Fr _ _ _ _ => lF)
  replace lF := fr_fold [((Str.ofString "self"), .ref sh), ((Str.ofString "number"), .int k tk), ((Str.ofString "generation"), .int 0 t0), ((Str.ofString "value"), v)] lF (by tb_start)
  obtain ⟨u, lF⟩ := lF
  dsimp only [kstB] at lF
  k_with_none
  k_with "setItem ref int" => (k_dflt (refine' set_L1 (knd := PySem.intKind _ _) ?F ?N ?x hne hD (intKind_is _ _ _ _) hsz ?_); (case F => k_asm); (case N => k_asm); (case x => (rename (_ < _ ∧ AllLt _ _) => hll; exact hll.1)); intro h' o' F' N' hd')
  k_steps
  rename (_ < _ ∧ AllLt _ _) => hll
  all_goals (refine' hret _ _ _ _ ?e1 ?e2 ?e3; (case e1 => k_asm); (case e2 => k_asm); (case e3 => exact ⟨rfl, _, _, _, rfl, ⟨_, _, rfl⟩, by assumption, List.forall_mem_cons.mpr ⟨hll.1, allLt_mem hll.2⟩⟩))
end
section
set_option hygiene false in
local macro_rules | `(tactic| walk_at "TurnP") => `(tactic| ((with_reducible show TurnP _ _ _ _ _ _ _ _ (Flow.ret _) _); dsimp only [TurnP]))
set_option hygiene false in
local macro_rules | `(tactic| walk_at "TurnP") => `(tactic| ((with_reducible show TurnP _ _ _ _ _ _ _ _ (Flow.next) _); refine held ?_))
set_option hygiene false in
local macro_rules | `(tactic| walk_at "TurnP") => `(tactic| ((with_reducible show TurnP _ _ _ _ _ _ _ _ (Flow.cont) _); refine held ?_))
section
set_option hygiene false in
local macro_rules | `(tactic| kt_at_method) => `(tactic| first | (apply NeAll.of; with_reducible assumption) | with_reducible apply NeAll.nil | (with_reducible apply NeAll.ofLt; simp only [AllLt, and_true]; with_reducible assumption) | ((with_reducible apply NeAll.cons); (focus k_ne); kt_at_method) | ((with_reducible apply NeAll.app); (focus kt_at_method); kt_at_method) | (apply NeAll.of; exact Apart.ne (by with_reducible assumption) (by k_mem)))
-- part Told
theorem NamesAre.snoc {l : List (Addr × Obj)} {ys : List Value} {xs : List Str} {v : Value} {x : Str} (h : NamesAre l ys xs) (k : NameAt l v x) : NamesAre l (ys ++ [v]) (xs ++ [x]) := by
  induction h with
  | nil => exact .cons k .nil
  | cons a _ ih => exact .cons a ih
theorem told_one (w : World) (rest : List (Addr × Obj)) (src cl : Addr) (cells : List Value) (ns : List Int) (nc n place : Nat) (t1 t2 : Tok) (r : Int) (m1 : (cl, listOf cells.toArray nc) ∈ rest) (hi : IntsAre cells ns) (hns : 0 < ns.length) (hns2 : ns.length ≤ 100) (hne : ∀ p ∈ rest, p.1 ≠ src) (hr : 0 ≤ r) (hp : place ≤ 900) (wl : Addr) (vs : List Value) (nw : Nat) (hw : (kx.heap_1 w.params).lookup wl = some (listOf vs.toArray nw)) (ws : List Str) (hvs : StrsAre vs ws) (hwl : 0 < ws.length ∧ ws.length ≤ 2) (x : Str) (tx : Tok) (hv1 : vs = [.str x tx]) (hw1 : ws = [x]) : Ctr w 570 3 [.ref src, .ref wl] ((src, srcO cl r place t1 t2 n) :: rest) (fun r' n' => ∃ pre r2 t3 t4 n2 p2, (src, srcO cl r2 p2 t3 t4 n2) :: (pre ++ rest) = n' ∧ 0 ≤ r2 ∧ p2 ≤ place + 1 ∧ IntentAt pre r' ws ∧ Apart pre ((src, srcO cl r place t1 t2 n) :: rest)) := by
  unfold Ctr
  k_fill
  k_with_none
  replace hvs : Held (StrsAre vs ws) := hvs
  intros; rename_i hret
  refine (let A9 : Around := _; (?_ : wpAny _ A9 _ _ _ _))
  refine wpAny_call ?_
  k_dflt (refine' code_def ?k1 ?k2 ?k3 ?k4 ?k5 ?kA ?kF ?kK ?k6 ?k7 ?k8 ?k9 ?kB ?_ ?c2 ?c3 ?c4 ?c5; (case kA => exact rfl); (case kF => exact rfl); (case kK => first | assumption | exact rfl); (case k1 => k_asm); (case k2 => k_asm); (case k3 => k_asm); (case k4 => k_asm); (case k5 => k_asm); (case k6 => k_is); (case k7 => k_is); (case k8 => ktr_room); (case k9 => first | exact BindsTo.of_eq rfl | exact binds_K (by k_in) rfl (by k_is) rfl rfl rfl); (case c5 => decide); (case kB => exact locs rfl); (case c2 => exact rfl); (case c3 => exact rfl); (case c4 => exact rfl); k_whole; intro g' L' h' FG' F' N' B' X' T'; (try dsimp only); (try k_lift B'); (try k_fold))
  refine (let e9 : Env := _; (?_ : wpAny _ (Around.deeper _ e9) (execs _ e9) _ _ _))
  refine (let B9 : Around := _; (?_ : wpAny _ B9 _ _ _ _))
  (rename Fr _ _ _ _ => lF)
  replace lF := fr_fold [((Str.ofString "source"), .ref src), ((Str.ofString "words"), .ref wl)] lF (by tb_start)
  obtain ⟨u, lF⟩ := lF
  dsimp only [kstB] at lF
  k_with_none
  have hl := top_list X' hw
  k_with "call builtin:len" => (k_dflt (refine' len_K ?lF hl 1 ?ln (by decide) ?_); (case lF => k_asm); (case ln => (rw [hv1]; k_dflt (exact rfl))); intro t9 tk9)
  k_with "subscriptTail" => (k_dflt (refine' item_K ?lF hl (by decide) (by decide) ?lv ?_ ?lh); (case lF => k_asm); (case lv => (rw [hv1]; k_dflt (exact rfl))); (case lh => with_unfolding_all rfl))
  k_with "call!" => ((with_reducible show wpAny _ _ (call (Value.ref 565) _) _ _ _); k_dflt (refine' Ctr.use ?kC ?k1 ?k2 ?k3 ?k4 ?k5 ?kK ?kd ?ku ?_); (case k4 => k_asm); (case kC => k_dflt (exact take_ok w rest src cl cells ns nc n place t1 t2 _ r _ m1 hi hns hns2 hne hr (by omega) (by decide) (by decide))); (case k1 => k_asm); (case k2 => k_asm); (case k3 => k_asm); (case k5 => k_asm); (case kK => first | exact rfl | assumption); (case kd => ktr_room); (case ku => ktr_units); intro ra na ha tka Fa Na pa; (obtain ⟨va, tva, ra, t3a, t4a, n2a, e8, hv0a, hv1a, hra, e9⟩ := pa; subst e8; subst e9); (try dsimp only); (try k_fold))
  k_with "call!" => ((with_reducible show wpAny _ _ (call (Value.ref 190) _) _ _ _); k_dflt (refine' Ctr.use ?kC ?k1 ?k2 ?k3 ?k4 ?k5 ?kK ?kd ?ku ?_); (case k4 => k_asm); (case kC => k_dflt (exact name_mk w _ _ _)); (case k1 => k_asm); (case k2 => k_asm); (case k3 => k_asm); (case k5 => k_asm); (case kK => first | exact rfl | assumption); (case kd => ktr_room); (case ku => ktr_units); intro rb nb hb tkb Fb Nb pb; (obtain ⟨preb, e8, hnb, hab⟩ := pb; subst e8); (try dsimp only); (try k_fold))
  k_steps
  (refine' hret _ _ _ _ ?e1 ?e2 ?e3; (case e1 => k_asm); (case e2 => exact cb_drop (news := (src, _) :: (preb ++ rest)) (by k_asm) (by tb_rel)); (case e3 => exact ⟨preb, _, _, _, _, _, rfl, by assumption, by omega, (by rw [hw1]; exact .one hnb), hab.sub (fun p hp => (List.mem_cons.mp hp).elim (fun e => ⟨_, List.Mem.head _, by rw [e]⟩) fun hp => ⟨p, List.Mem.tail _ hp, rfl⟩)⟩))
  unfold Held
  k_dflt (refine' compU_base (xs := vs) (fun i ys nx => ∃ pre, pre ++ (src, srcO cl ra (place + 1) t3a t4a n2a) :: rest = nx ∧ NamesAre pre ys (ws.take i) ∧ Apart pre ((src, srcO cl r place t1 t2 n) :: rest)) (by rfl) ?cF ?cN hl ?cz ?cj0 ?cturn ?cfin)
  case cF => k_asm
  case cN => k_asm
  case cz => (have h9 := (held hvs).length; omega)
  case cj0 => exact ⟨[], rfl, .nil, Apart.nil⟩
  case cfin =>
    intro g9 ys nx hJ
    obtain ⟨pre, e1, hnm, hab⟩ := hJ
    subst e1
    rw [(held hvs).length, List.take_length] at hnm
    unfold LCg.FinE
    intro D h tk F N o1
    k_steps
    all_goals (refine' hret _ _ _ _ ?e1 ?e2 ?e3; (case e1 => k_asm); (case e2 => exact cb_drop (news := (src, _) :: ((D, listOf ys.toArray ys.length) :: pre ++ rest)) (by k_asm) (by tb_rel)); (case e3 => exact ⟨(D, listOf ys.toArray ys.length) :: pre, _, _, _, _, _, rfl, by assumption, by omega, .list (List.Mem.head _) (hnm.sub (by tb_rel)) (by intro e; rw [e] at hwl; exact absurd hwl (by decide)) (by omega), Apart.cons (fun q hq => (List.mem_cons.mp hq).elim (fun e => off1_mem o1 (src, _) (by k_mem) |> fun k => by rw [e]; exact k) fun hq => off1_mem o1 q (List.mem_append_right _ (List.Mem.tail _ hq))) hab⟩))
  case cturn =>
    intro i v ys nx I oI C oC D m₂ h tk E' hv hJ hS hC hx F N o3 n3
    obtain ⟨pre, e1, hnm, hab⟩ := hJ
    subst e1
    obtain ⟨x, t, hxq, ev⟩ := strs_get (held hvs) hv
    subst ev
    k_with "call!" => ((with_reducible show wpAny _ _ (call (Value.ref 190) _) _ _ _); k_dflt (refine' Ctr.use ?kC ?k1 ?k2 ?k3 ?k4 ?k5 ?kK ?kd ?ku ?_); (case k4 => k_asm); (case kC => k_dflt (exact name_mk w _ _ _)); (case k1 => k_asm); (case k2 => k_asm); (case k3 => k_asm); (case k5 => k_asm); (case kK => first | exact rfl | assumption); (case kd => ktr_room); (case ku => ktr_units); intro rc nc hc tkc Fc Nc pc; (obtain ⟨prec, e8, hnc, hac⟩ := pc; subst e8); (try dsimp only); (try k_fold))
    k_steps
    unfold Held
    k_dflt (refine' end_app ?eF ?eN hac o3 (srcAt_app hS) ?er)
    case eF => k_asm
    case eN => k_asm
    case er => exact ⟨prec ++ pre, List.append_assoc .., (by rw [take_snoc hxq]; exact (hnm.sub (by tb_rel)).snoc (hnc.sub (by tb_rel))), Apart.append (hac.sub fun p hp => (List.mem_cons.mp hp).elim (fun e => ⟨(src, _), by k_mem, by rw [e]⟩) fun hp => ⟨p, List.Mem.tail _ (List.Mem.tail _ (List.Mem.tail _ (List.mem_append_right _ (List.Mem.tail _ hp)))), rfl⟩) hab⟩
theorem told_two (w : World) (rest : List (Addr × Obj)) (src cl : Addr) (cells : List Value) (ns : List Int) (nc n place : Nat) (t1 t2 : Tok) (r : Int) (m1 : (cl, listOf cells.toArray nc) ∈ rest) (hi : IntsAre cells ns) (hns : 0 < ns.length) (hns2 : ns.length ≤ 100) (hne : ∀ p ∈ rest, p.1 ≠ src) (hr : 0 ≤ r) (hp : place ≤ 900) (wl : Addr) (vs : List Value) (nw : Nat) (hw : (kx.heap_1 w.params).lookup wl = some (listOf vs.toArray nw)) (ws : List Str) (hvs : StrsAre vs ws) (hwl : 0 < ws.length ∧ ws.length ≤ 2) (hv1 : vs.length = 2) : Ctr w 570 3 [.ref src, .ref wl] ((src, srcO cl r place t1 t2 n) :: rest) (fun r' n' => ∃ pre r2 t3 t4 n2 p2, (src, srcO cl r2 p2 t3 t4 n2) :: (pre ++ rest) = n' ∧ 0 ≤ r2 ∧ p2 ≤ place + 1 ∧ IntentAt pre r' ws ∧ Apart pre ((src, srcO cl r place t1 t2 n) :: rest)) := by
  unfold Ctr
  k_fill
  k_with_none
  replace hvs : Held (StrsAre vs ws) := hvs
  intros; rename_i hret
  refine (let A9 : Around := _; (?_ : wpAny _ A9 _ _ _ _))
  refine wpAny_call ?_
  k_dflt (refine' code_def ?k1 ?k2 ?k3 ?k4 ?k5 ?kA ?kF ?kK ?k6 ?k7 ?k8 ?k9 ?kB ?_ ?c2 ?c3 ?c4 ?c5; (case kA => exact rfl); (case kF => exact rfl); (case kK => first | assumption | exact rfl); (case k1 => k_asm); (case k2 => k_asm); (case k3 => k_asm); (case k4 => k_asm); (case k5 => k_asm); (case k6 => k_is); (case k7 => k_is); (case k8 => ktr_room); (case k9 => first | exact BindsTo.of_eq rfl | exact binds_K (by k_in) rfl (by k_is) rfl rfl rfl); (case c5 => decide); (case kB => exact locs rfl); (case c2 => exact rfl); (case c3 => exact rfl); (case c4 => exact rfl); k_whole; intro g' L' h' FG' F' N' B' X' T'; (try dsimp only); (try k_lift B'); (try k_fold))
  refine (let e9 : Env := _; (?_ : wpAny _ (Around.deeper _ e9) (execs _ e9) _ _ _))
  refine (let B9 : Around := _; (?_ : wpAny _ B9 _ _ _ _))
  (rename Fr _ _ _ _ => lF)
  replace lF := fr_fold [((Str.ofString "source"), .ref src), ((Str.ofString "words"), .ref wl)] lF (by tb_start)
  obtain ⟨u, lF⟩ := lF
  dsimp only [kstB] at lF
  k_with_none
  have hl := top_list X' hw
  k_with "call builtin:len" => (k_dflt (refine' len_K ?lF hl 2 ?ln (by decide) ?_); (case lF => k_asm); (case ln => (rw [hv1]; k_dflt (exact rfl))); intro t9 tk9)
  k_with "subscriptTail" => (k_dflt (refine' item_K ?lF hl (by decide) (by decide) ?lv ?_ ?lh); (case lF => k_asm); (case lv => k_dflt (exact rfl)); (case lh => with_unfolding_all rfl))
  k_steps
  unfold Held
  k_dflt (refine' compU_base (xs := vs) (fun i ys nx => ∃ pre, pre ++ (src, srcO cl r place t1 t2 n) :: rest = nx ∧ NamesAre pre ys (ws.take i) ∧ Apart pre ((src, srcO cl r place t1 t2 n) :: rest)) (by rfl) ?cF ?cN hl ?cz ?cj0 ?cturn ?cfin)
  case cF => k_asm
  case cN => k_asm
  case cz => (have h9 := (held hvs).length; omega)
  case cj0 => exact ⟨[], rfl, .nil, Apart.nil⟩
  case cfin =>
    intro g9 ys nx hJ
    obtain ⟨pre, e1, hnm, hab⟩ := hJ
    subst e1
    rw [(held hvs).length, List.take_length] at hnm
    unfold LCg.FinE
    intro D h tk F N o1
    k_steps
    all_goals (refine' hret _ _ _ _ ?e1 ?e2 ?e3; (case e1 => k_asm); (case e2 => exact cb_drop (news := (src, _) :: ((D, listOf ys.toArray ys.length) :: pre ++ rest)) (by k_asm) (by tb_rel)); (case e3 => exact ⟨(D, listOf ys.toArray ys.length) :: pre, _, _, _, _, _, rfl, by assumption, by omega, .list (List.Mem.head _) (hnm.sub (by tb_rel)) (by intro e; rw [e] at hwl; exact absurd hwl (by decide)) (by omega), Apart.cons (fun q hq => (List.mem_cons.mp hq).elim (fun e => off1_mem o1 (src, _) (by k_mem) |> fun k => by rw [e]; exact k) fun hq => off1_mem o1 q (List.mem_append_right _ (List.Mem.tail _ hq))) hab⟩))
  case cturn =>
    intro i v ys nx I oI C oC D m₂ h tk E' hv hJ hS hC hx F N o3 n3
    obtain ⟨pre, e1, hnm, hab⟩ := hJ
    subst e1
    obtain ⟨x, t, hxq, ev⟩ := strs_get (held hvs) hv
    subst ev
    k_with "call!" => ((with_reducible show wpAny _ _ (call (Value.ref 190) _) _ _ _); k_dflt (refine' Ctr.use ?kC ?k1 ?k2 ?k3 ?k4 ?k5 ?kK ?kd ?ku ?_); (case k4 => k_asm); (case kC => k_dflt (exact name_mk w _ _ _)); (case k1 => k_asm); (case k2 => k_asm); (case k3 => k_asm); (case k5 => k_asm); (case kK => first | exact rfl | assumption); (case kd => ktr_room); (case ku => ktr_units); intro rc nc hc tkc Fc Nc pc; (obtain ⟨prec, e8, hnc, hac⟩ := pc; subst e8); (try dsimp only); (try k_fold))
    k_steps
    unfold Held
    k_dflt (refine' end_app ?eF ?eN hac o3 (srcAt_app hS) ?er)
    case eF => k_asm
    case eN => k_asm
    case er => exact ⟨prec ++ pre, List.append_assoc .., (by rw [take_snoc hxq]; exact (hnm.sub (by tb_rel)).snoc (hnc.sub (by tb_rel))), Apart.append (hac.sub fun p hp => (List.mem_cons.mp hp).elim (fun e => ⟨(src, _), by k_mem, by rw [e]⟩) fun hp => ⟨p, List.Mem.tail _ (List.Mem.tail _ (List.Mem.tail _ (List.mem_append_right _ (List.Mem.tail _ hp)))), rfl⟩) hab⟩
-- part Doc0
theorem nm {h₀ h : Heap} {L : Addr} {l : List (Addr × Obj)} {P : Prop} (i : Nat) (a : Addr) (o : Obj) (_ : l[i]? = some (a, o)) (_ : News h₀ L h l) (k : ∀ (a' : Addr) (o' : Obj), a' = a → o' = o → P) : P := k a o rfl rfl
def menuW : Nat → List Str
  | 1 => [Str.ofString "View"]
  | 2 => [Str.ofString "Design"]
  | 3 => [Str.ofString "View", Str.ofString "Design"]
  | 4 => [Str.ofString "All"]
  | 5 => [Str.ofString "Other"]
  | _ => []
def menuV : Nat → List Value
  | 1 => [.str (Str.ofString "View") 924]
  | 2 => [.str (Str.ofString "Design") 925]
  | 3 => [.str (Str.ofString "View") 926, .str (Str.ofString "Design") 927]
  | 4 => [.str (Str.ofString "All") 928]
  | 5 => [.str (Str.ofString "Other") 929]
  | _ => []
theorem menu_are : ∀ m, StrsAre (menuV m) (menuW m)
  | 0 => .nil
  | 1 => .cons _ _ .nil
  | 2 => .cons _ _ .nil
  | 3 => .cons _ _ (.cons _ _ .nil)
  | 4 => .cons _ _ .nil
  | 5 => .cons _ _ .nil
  | _ + 6 => .nil
theorem menu_look (w : World) : ((kx.heap_1 w.params).lookup 547 = some (listOf (menuV 0).toArray 0) ∧ (kx.heap_1 w.params).lookup 548 = some (listOf (menuV 1).toArray 0) ∧ (kx.heap_1 w.params).lookup 549 = some (listOf (menuV 2).toArray 0) ∧
    (kx.heap_1 w.params).lookup 550 = some (listOf (menuV 3).toArray 0) ∧ (kx.heap_1 w.params).lookup 551 = some (listOf (menuV 4).toArray 0) ∧ (kx.heap_1 w.params).lookup 552 = some (listOf (menuV 5).toArray 0) ∧
    (kx.heap_1 w.params).lookup 553 = some (tupO [.ref 547, .ref 548, .ref 549, .ref 550, .ref 551, .ref 552] 0)) ∧ PySem.Challenge.rw_qd0128_01.prog = PySem.Challenge.rw_qd0128_01.prog := by
  k_fill
  exact ⟨⟨by k_is, by k_is, by k_is, by k_is, by k_is, by k_is, by k_is⟩, rfl⟩
section
variable {prog : Program} {w : World} {A : Around} {E : Value → Shared → Prop} {s : Shared} {h₀ h h' : Heap} {L D : Addr} {m : Str → Option Value} {full keep : List (Addr × Obj)} {o o' : Obj}
theorem flat_rep {v : Value} : ∀ (k : Nat) (acc : Array Value), List.foldl (fun x1 x2 => x1 ++ x2) acc (List.replicate k #[v]) = acc ++ (List.replicate k v).toArray
  | 0, acc => by simp
  | k + 1, acc => by
    rw [List.replicate_succ, List.foldl_cons, flat_rep k, List.replicate_succ]
    apply Array.toList_inj.mp
    simp
theorem mul_L {l : Addr} {v : Value} {n : Nat} {x : Int} {u : Tok} {Q : Value → Shared → Prop} (F : Fr h₀ L s.heap m) (N : News h₀ L s.heap full) (hm : (l, listOf [v].toArray n) ∈ full) (h0 : 0 ≤ x) (h1 : x < 100)
    (h : ∀ l' h', Fr h₀ L h' m → News h₀ L h' ((l', listOf (List.replicate x.toNat v).toArray 0) :: full) → (∀ p ∈ full, p.1 < l') → Q (.ref l') { s with heap := h' }) :
    wpAny (model prog w) A (binaryOp .Mult (.ref l) (.int x u)) Q E s := by
  refine mul_list F N (N _ hm).1 (by omega) (by omega) (by simp; omega) fun h' F' N' => ?_
  refine h _ _ F' ?_ fun p hp => Heap.lt_size (N p hp).1
  have e : (List.foldl (fun x1 x2 => x1 ++ x2) #[] (List.replicate (if ([v].toArray : Array Value).isEmpty = true then 0 else x.toNat) [v].toArray)) = (List.replicate x.toNat v).toArray := by
    rw [if_neg (by simp), flat_rep]; simp
  rw [e] at N'
  exact N'
theorem rep_ints {k : Int} {t : Tok} : ∀ n : Nat, IntsAre (List.replicate n (.int k t)) (List.replicate n k)
  | 0 => .nil
  | n + 1 => .cons k t (rep_ints n)
theorem bytes_L {l : Addr} {vs : List Value} {ns : List Int} {n : Nat} {Q : Value → Shared → Prop} (F : Fr h₀ L s.heap m) (N : News h₀ L s.heap full) (hm : (l, listOf vs.toArray n) ∈ full) (hi : IntsAre vs ns) (hr : ∀ n ∈ ns, 0 ≤ n ∧ n < 256) (hz : vs.length ≤ 1000) (hh : A.handled = none)
    (h : ∀ h' t k, Fr h₀ L h' m → News h₀ L h' full → Q (.bytes (byteArr ns) t) { s with heap := h', toks := k }) : wpAny (model prog w) A (call (.type "bytes") [.ref l]) Q E s :=
  call_bytes_ints (News.isList N hm) hi hr (by rw [sizeLine_eq]; omega) hh fun h' t k hk => h h' t k (F.keeps hk) fun p hp => ⟨hk _ _ (N p hp).1, (N p hp).2⟩
theorem tup_K {K : Frag} {value slice : PySem.Expr} {a : Addr} {l : List Value} {n : Nat} {k : Int} {u : Tok} {x : Value} {Q : Value → Shared → Prop} (F : Fr h₀ L s.heap m) (X : K.In h₀) (e : K.lookup a = some (tupO l n)) (h0 : 0 ≤ k) (h1 : k < l.length) (h2 : k < 2 ^ 63) (hx : l[k.toNat]? = some x) (h : Q x s)
    (hs : subscripted slice false (.ref a) (.int k u) = operate [.ref a, .int k u] (getItem (.ref a) (.int k u)) := by with_unfolding_all rfl) (hg : ∀ r, letTemporaryGo value (.ref a) r = pure () := by intro _; with_unfolding_all rfl) :
    wpAny (model prog w) A (subscriptTail value slice (.ref a) (.int k u)) Q E s :=
  item_tupleL (j := k.toNat) ⟨_, F.keep _ _ (X _ _ e), rfl, _, rfl⟩ (by omega) h2 (by unfold seqIndex?; simp; omega) hx h hs hg
theorem ne_nil_K {l b : Addr} {xs : List Value} {n2 : Nat} {Q : Value → Shared → Prop} (F : Fr h₀ L s.heap m) (N : News h₀ L s.heap full) (hl : h₀.IsList l xs.toArray) (hb : (b, listOf #[] n2) ∈ full) (hu : A.units < cLine) {t : Bool} (ht : (!xs.isEmpty) = t)
    (h : Q (.bool t) s) : wpAny (model prog w) A (compareOp .NotEq (.ref l) (.ref b)) Q E s := by
  subst ht
  have e1 : s.heap.IsList l xs.toArray := by
    obtain ⟨o, ho, r⟩ := hl
    exact ⟨o, F.keep _ _ ho, r⟩
  have e2 := News.isList N hb
  cases xs with
  | nil => exact SeqAt.RcNeAt.lists (e := fun _ => true) e1 e2 rfl hu (fun j h1 => absurd h1 (Nat.not_lt_zero _)) prog w E Q h
  | cons x xs => exact SeqAt.RcNeAt.lists_lengths e1 e2 (by simp) hu prog w E Q h
end
def Ext (kvs kvs' : List (Int × Value)) : Prop := ∀ k c, valueAt kvs k = some c → valueAt kvs' k = some c
theorem Ext.refl {kvs : List (Int × Value)} : Ext kvs kvs := fun _ _ h => h
theorem Ext.trans {a b c : List (Int × Value)} (x : Ext a b) (y : Ext b c) : Ext a c := fun k v h => y k v (x k v h)
theorem Ext.snoc {kvs : List (Int × Value)} {k : Int} {v : Value} : Ext kvs (kvs ++ [(k, v)]) := fun k' c h => by
  unfold valueAt at *
  rw [List.find?_append]
  cases e : kvs.find? (fun kv => decide (kv.1 = k')) with
  | none => rw [e] at h; cases h
  | some p => rw [e] at h; simpa using h
theorem at_snoc {kvs : List (Int × Value)} {k : Int} {v : Value} (h : valueAt kvs k = none) : valueAt (kvs ++ [(k, v)]) k = some v := by
  unfold valueAt at *
  rw [List.find?_append]
  cases e : kvs.find? (fun kv => decide (kv.1 = k)) with
  | none => simp
  | some p => rw [e] at h; cases h
theorem at_none {kvs : List (Int × Value)} {k : Int} (h : ∀ p ∈ kvs, p.1 ≠ k) : valueAt kvs k = none := valueAt_none_of_not_mem fun hm => by
  obtain ⟨p, hp, e⟩ := List.mem_map.mp hm
  exact h p hp e
theorem Res.ext {news : List (Addr × Obj)} {kvs kvs' : List (Int × Value)} (hx : Ext kvs kvs') {n : Nat} {v r : Value} (h : Res news kvs n v r) : Res news kvs' n v r := by
  induction h with
  | here => exact .here _
  | hop a b c _ ih => exact .hop a (hx _ _ b) c ih
theorem GrpAt.ext {w : World} {news : List (Addr × Obj)} {kvs kvs' : List (Int × Value)} (hx : Ext kvs kvs') {k : Int} {hv : Value} {kvh : List (Str × Value)} {nm : Array UInt8} {ws : List Str} : GrpAt w news kvs k hv kvh nm ws → GrpAt w news kvs' k hv kvh nm ws :=
  fun ⟨⟨c, v₀, n, a1, a2, a3, a4⟩, r⟩ => ⟨⟨c, v₀, n, hx _ _ a1, a2, a3.ext hx, a4⟩, r⟩
def KeysIn (i h : Nat) (kvs : List (Int × Value)) : Prop := ∀ p ∈ kvs, (0 < p.1 ∧ p.1 % 10 ≤ (i : Int)) ∨ ∃ j : Nat, j < h ∧ p.1 = 10 * ((j : Int) + 1) + ((i : Int) + 1)
theorem KeysIn.nil {i h : Nat} : KeysIn i h [] := fun _ h => nomatch h
theorem KeysIn.hop {i h : Nat} {kvs : List (Int × Value)} {v : Value} (k : KeysIn i h kvs) : KeysIn i (h + 1) (kvs ++ [(10 * ((h : Int) + 1) + ((i : Int) + 1), v)]) := fun p hp => by
  rcases List.mem_append.mp hp with hp | hp
  · rcases k p hp with a | ⟨j, hj, e⟩
    · exact .inl a
    · exact .inr ⟨j, Nat.lt_succ_of_lt hj, e⟩
  · rw [List.mem_singleton.mp hp]
    exact .inr ⟨h, Nat.lt_succ_self h, rfl⟩
theorem KeysIn.hop_none {i h : Nat} {kvs : List (Int × Value)} (k : KeysIn i h kvs) (hi : i < 9) : valueAt kvs (10 * ((h : Int) + 1) + ((i : Int) + 1)) = none := at_none fun p hp e => by
  rcases k p hp with a | ⟨j, hj, e'⟩
  · rw [e] at a; omega
  · rw [e] at e'; omega
theorem KeysIn.last_none {i h : Nat} {kvs : List (Int × Value)} (k : KeysIn i h kvs) (hi : i < 9) : valueAt kvs ((i : Int) + 1) = none := at_none fun p hp e => by
  rcases k p hp with a | ⟨j, hj, e'⟩
  · rw [e] at a; omega
  · rw [e] at e'; omega
theorem KeysIn.last {i h : Nat} {kvs : List (Int × Value)} {v : Value} (k : KeysIn i h kvs) (hi : i < 9) : KeysIn (i + 1) 0 (kvs ++ [((i : Int) + 1, v)]) := fun p hp => by
  left
  rcases List.mem_append.mp hp with hp | hp
  · rcases k p hp with ⟨a, b⟩ | ⟨j, hj, e⟩
    · exact ⟨a, by omega⟩
    · rw [e]; omega
  · rw [List.mem_singleton.mp hp]
    show 0 < (i : Int) + 1 ∧ ((i : Int) + 1) % 10 ≤ _
    omega
theorem abs_list {P : Prop} (l : List (Addr × Obj)) (k : ∀ R, R = l → P) : P := k l rfl
theorem abs_int {P : Prop} {v b : Int} (h0 : 0 ≤ v) (h1 : v < b) (k : ∀ n : Nat, (n : Int) < b → v = (n : Int) → P) : P := k v.toNat (by omega) (by omega)
theorem range_up : ∀ n : Nat, n < 10 → Builtin.Range.small 1 (1 + (n : Int)) 1 = true ∧ Builtin.Range.rangeSize 1 (1 + (n : Int)) 1 = (n : Int) := by decide +kernel
theorem range_zero : ∀ n : Nat, n < 10 → Builtin.Range.small 0 (n : Int) 1 = true ∧ Builtin.Range.rangeSize 0 (n : Int) 1 = (n : Int) := by decide +kernel
def menuR (m : Nat) : Value := .ref (547 + m)
def keyed (vs : List Value) : List (Int × Value) := (upTo vs.length).zip vs
theorem keyed_snoc (vs : List Value) (v : Value) : keyed (vs ++ [v]) = keyed vs ++ [((vs.length : Int) + 1, v)] := by
  unfold keyed
  rw [List.length_append, List.length_singleton, upTo_succ, List.zip_append (by rw [upTo_length])]
  rfl
theorem keyed_length (vs : List Value) : (keyed vs).length = vs.length := by simp [keyed, upTo_length]
theorem keyed_none (vs : List Value) : valueAt (keyed vs) ((vs.length : Int) + 1) = none := at_none fun p hp e => by
  have h := (List.of_mem_zip hp).1
  rw [upTo, List.mem_map] at h
  obtain ⟨j, hj, e'⟩ := h
  rw [List.mem_range] at hj
  omega
inductive BytesAre : List Value → List (Array UInt8) → Prop
  | nil : BytesAre [] []
  | cons (b : Array UInt8) (t : Tok) {vs : List Value} {bs : List (Array UInt8)} : BytesAre vs bs → BytesAre (.bytes b t :: vs) (b :: bs)
theorem BytesAre.length {vs : List Value} {bs : List (Array UInt8)} (h : BytesAre vs bs) : vs.length = bs.length := by
  induction h with
  | nil => rfl
  | cons _ _ _ ih => simp [ih]
theorem BytesAre.snoc {vs : List Value} {bs : List (Array UInt8)} (h : BytesAre vs bs) (b : Array UInt8) (t : Tok) : BytesAre (vs ++ [.bytes b t]) (bs ++ [b]) := by
  induction h with
  | nil => exact .cons b t .nil
  | cons _ _ _ ih => exact .cons _ _ ih
inductive DocJ (w : World) (src cl T di dn : Addr) (K0 R0 : List (Addr × Obj)) (p0 i : Nat) (gs : List Nat) (bs : List (Array UInt8)) (nx : List (Addr × Obj)) : Prop
  | mk (r place t3 t4 n2 oT oI oN pre kvs vb : _) (e0 : nx = (src, srcO cl r place t3 t4 n2) :: (T, oT) :: (di, oI) :: (dn, oN) :: (K0 ++ (pre ++ R0))) (e1 : 0 ≤ r) (e2 : place ≤ p0 + 4 * i) (e3 : oT.IsDictOf (PySem.intKind PySem.Challenge.rw_qd0128_01.prog w) kvs) (e4 : oI.IsDictOf (PySem.intKind PySem.Challenge.rw_qd0128_01.prog w) (keyed (gs.map menuR))) (e5 : oN.IsDictOf (PySem.intKind PySem.Challenge.rw_qd0128_01.prog w) (keyed vb)) (e6 : KeysIn i 0 kvs) (e7 : kvs.length ≤ 3 * i) (e8 : gs.length = i) (e9 : bs.length = i) (e10 : BytesAre vb bs) (e11 : (∀ m ∈ gs, m < 6)) (e12 : Apart pre ((src, srcO cl r place t3 t4 n2) :: (T, oT) :: (di, oI) :: (dn, oN) :: R0)) (e13 : Apart pre K0) (e14 : ∀ (j : Nat) m b, gs[j]? = some m → bs[j]? = some b → ∃ hv kvh, GrpAt w (pre ++ R0) kvs ((j : Int) + 1) hv kvh b (menuW m))
theorem menu_at : ∀ m : Nat, m < 6 → [Value.ref 547, .ref 548, .ref 549, .ref 550, .ref 551, .ref 552][((m : Int)).toNat]? = some (.ref (547 + m))
  | 0, _ => rfl
  | 1, _ => rfl
  | 2, _ => rfl
  | 3, _ => rfl
  | 4, _ => rfl
  | 5, _ => rfl
  | n + 6, h => absurd h (by omega)
theorem Apart.of_off {own nx : List (Addr × Obj)} (h : ∀ p ∈ own, ∀ q ∈ nx, p.1 ≠ q.1) : Apart own nx := fun p hp q hq e => h p hp q hq e.symm
theorem stored_keyed {vs : List Value} {v : Value} {k : Int} (hk : k = (vs.length : Int) + 1) : stored (keyed vs) k v = keyed (vs ++ [v]) := by
  subst hk
  rw [stored_absent (keyed_none vs), keyed_snoc]
theorem keyed_last {vs : List Value} {v : Value} {k : Int} (hk : k = (vs.length : Int) + 1) : valueAt (keyed (vs ++ [v])) k = some v := by
  subst hk
  rw [keyed_snoc]
  exact at_snoc (keyed_none vs)
theorem menu_look' (w : World) : ∀ m : Nat, m < 6 → (kx.heap_1 w.params).lookup (547 + m) = some (listOf (menuV m).toArray 0)
  | 0, _ => (menu_look w).1.1
  | 1, _ => (menu_look w).1.2.1
  | 2, _ => (menu_look w).1.2.2.1
  | 3, _ => (menu_look w).1.2.2.2.1
  | 4, _ => (menu_look w).1.2.2.2.2.1
  | 5, _ => (menu_look w).1.2.2.2.2.2.1
  | n + 6, h => absurd h (by omega)
theorem menu_list {w : World} {h : Heap} (X : (kx.heap_1 w.params).In h) (m : Nat) (hm : m < 6) : h.IsList (547 + m) (menuV m).toArray := top_list X (menu_look' w m hm)
theorem menu_len : ∀ m : Nat, m < 6 → (menuV m).isEmpty = false → 0 < (menuW m).length ∧ (menuW m).length ≤ 2
  | 0, _, h => nomatch h
  | 1, _, _ => by decide
  | 2, _, _ => by decide
  | 3, _, _ => by decide
  | 4, _, _ => by decide
  | 5, _, _ => by decide
  | n + 6, h, _ => absurd h (by omega)
theorem told_menu (w : World) (rest : List (Addr × Obj)) (src cl : Addr) (cells : List Value) (ns : List Int) (nc n place : Nat) (t1 t2 : Tok) (r : Int) (m1 : (cl, listOf cells.toArray nc) ∈ rest) (hi : IntsAre cells ns) (hns : 0 < ns.length) (hns2 : ns.length ≤ 100) (hne : ∀ p ∈ rest, p.1 ≠ src) (hr : 0 ≤ r) (hp : place ≤ 900) (m : Nat) (hm : m < 6) (he : (menuV m).isEmpty = false) :
    Ctr w 570 3 [.ref src, .ref (547 + m)] ((src, srcO cl r place t1 t2 n) :: rest) (fun r' n' => ∃ pre r2 t3 t4 n2 p2, (src, srcO cl r2 p2 t3 t4 n2) :: (pre ++ rest) = n' ∧ 0 ≤ r2 ∧ p2 ≤ place + 1 ∧ IntentAt pre r' (menuW m) ∧ Apart pre ((src, srcO cl r place t1 t2 n) :: rest)) := by
  have hl := menu_len m hm he
  have ha := menu_are m
  have hk := menu_look' w m hm
  rcases hl with ⟨h1, h2⟩
  generalize hws : menuW m = ws at *
  generalize hvs : menuV m = vs at *
  cases ha with
  | nil => exact absurd h1 (by simp)
  | cons x tx ha' =>
    cases ha' with
    | nil => exact told_one w rest src cl cells ns nc n place t1 t2 r m1 hi hns hns2 hne hr hp _ _ 0 hk _ (.cons x tx .nil) ⟨h1, h2⟩ x tx rfl rfl
    | cons y ty ha'' =>
      cases ha'' with
      | nil => exact told_two w rest src cl cells ns nc n place t1 t2 r m1 hi hns hns2 hne hr hp _ _ 0 hk _ (.cons x tx (.cons y ty .nil)) ⟨h1, h2⟩ rfl
      | cons => simp at h2
theorem nmF {h₀ h : Heap} {L : Addr} {m : Str → Option Value} {P : Prop} (x : Str) (a : Addr) (_ : m x = some (.ref a)) (_ : Fr h₀ L h m) (k : ∀ a' : Addr, a' = a → P) : P := k a rfl
def HeadAt (w : World) (l : List (Addr × Obj)) (hv : Value) (b : Array UInt8) (ws : List Str) : Prop := ∃ kvh, StrDict w l hv kvh ∧ (∃ tv, valueAt kvh (Str.ofString "Type") = some tv ∧ NameAt l tv (Str.ofString "OCG")) ∧
  (∃ sv, valueAt kvh (Str.ofString "Name") = some sv ∧ StringAt l sv b) ∧ IntentAt l ((valueAt kvh (Str.ofString "Intent")).getD .none) ws
theorem HeadAt.sub {w : World} {l l' : List (Addr × Obj)} (hs : ∀ p ∈ l, p ∈ l') {hv : Value} {b : Array UInt8} {ws : List Str} : HeadAt w l hv b ws → HeadAt w l' hv b ws :=
  fun ⟨k, d, ⟨tv, e, f⟩, ⟨sv, g, i⟩, j⟩ => ⟨k, d.sub hs, ⟨tv, e, f.sub hs⟩, ⟨sv, g, i.sub hs⟩, j.sub hs⟩
theorem HeadAt.grp {w : World} {l : List (Addr × Obj)} {kvs : List (Int × Value)} {k : Int} {c v₀ hv : Value} {n : Nat} {b : Array UInt8} {ws : List Str} (h : HeadAt w l hv b ws) (h1 : valueAt kvs k = some c) (h2 : Cell l c v₀) (h3 : Res l kvs n v₀ hv) (h4 : n < 29) :
    ∃ kvh, GrpAt w l kvs k hv kvh b ws :=
  let ⟨kvh, d, t, s, i⟩ := h
  ⟨kvh, ⟨c, v₀, n, h1, h2, h3, h4⟩, d, t, s, i⟩
theorem menu_emp : ∀ m : Nat, (menuV m).isEmpty = true → menuW m = []
  | 0, _ => rfl
  | 1, h => nomatch h
  | 2, h => nomatch h
  | 3, h => nomatch h
  | 4, h => nomatch h
  | 5, h => nomatch h
  | _ + 6, _ => rfl
theorem head_plain {w : World} {l : List (Addr × Obj)} {a : Addr} {o : Obj} {tv sv : Value} {b : Array UInt8} {ws : List Str} (hm : (a, o) ∈ l) (hd : o.IsDictOf (PySem.strKind PySem.Challenge.rw_qd0128_01.prog w) [(Str.ofString "Type", tv), (Str.ofString "Name", sv)]) (hs : (a == sysModules) = false)
    (h1 : NameAt l tv (Str.ofString "OCG")) (h2 : StringAt l sv b) (h3 : ws = []) : HeadAt w l (.ref a) b ws :=
  ⟨_, ⟨a, o, rfl, hm, hd, hs⟩, ⟨tv, rfl, h1⟩, ⟨sv, rfl, h2⟩, h3 ▸ .none⟩
theorem head_intent {w : World} {l : List (Addr × Obj)} {a : Addr} {o : Obj} {tv sv iv : Value} {b : Array UInt8} {ws : List Str} (hm : (a, o) ∈ l) (hd : o.IsDictOf (PySem.strKind PySem.Challenge.rw_qd0128_01.prog w) (stored [(Str.ofString "Type", tv), (Str.ofString "Name", sv)] (Str.ofString "Intent") iv)) (hs : (a == sysModules) = false)
    (h1 : NameAt l tv (Str.ofString "OCG")) (h2 : StringAt l sv b) (h3 : IntentAt l iv ws) : HeadAt w l (.ref a) b ws :=
  ⟨_, ⟨a, o, rfl, hm, hd, hs⟩, ⟨tv, rfl, h1⟩, ⟨sv, rfl, h2⟩, h3⟩
inductive HopJ (w : World) (T : Addr) (Q : List (Addr × Obj)) (kvs : List (Int × Value)) (i n0 : Nat) (hv : Value) (R1 : List (Addr × Obj)) (k : Nat) (v : Value) (nx : List (Addr × Obj)) : Prop
  | mk (oT pre kvs' : _) (e0 : nx = (T, oT) :: (pre ++ R1)) (e1 : oT.IsDictOf (PySem.intKind PySem.Challenge.rw_qd0128_01.prog w) kvs') (e2 : KeysIn i k kvs') (e3 : kvs'.length ≤ n0 + k) (e4 : Ext kvs kvs') (e5 : Apart pre ((T, oT) :: R1)) (e6 : Res (pre ++ Q) kvs' k v hv)
theorem Apart.five {pre old R0 : List (Addr × Obj)} {a b c d : Addr} {a1 b1 c1 d1 a2 b2 c2 d2 : Obj} (h : Apart pre old) (ha : (a, a1) ∈ old) (hb : (b, b1) ∈ old) (hc : (c, c1) ∈ old) (hd : (d, d1) ∈ old) (hr : ∀ p ∈ R0, p ∈ old) :
    Apart pre ((a, a2) :: (b, b2) :: (c, c2) :: (d, d2) :: R0) := fun p hp q hq => by
  rcases List.mem_cons.mp hq with rfl | hq
  · exact h p hp (a, a1) ha
  rcases List.mem_cons.mp hq with rfl | hq
  · exact h p hp (b, b1) hb
  rcases List.mem_cons.mp hq with rfl | hq
  · exact h p hp (c, c1) hc
  rcases List.mem_cons.mp hq with rfl | hq
  · exact h p hp (d, d1) hd
  exact h p hp q (hr q hq)
theorem Apart.two {pre old R : List (Addr × Obj)} {a : Addr} {a1 a2 : Obj} (h : Apart pre old) (ha : (a, a1) ∈ old) (hr : ∀ p ∈ R, p ∈ old) : Apart pre ((a, a2) :: R) := fun p hp q hq => by
  rcases List.mem_cons.mp hq with rfl | hq
  · exact h p hp (a, a1) ha
  exact h p hp q (hr q hq)
theorem Apart.of_lt {x : Addr × Obj} {pre old R : List (Addr × Obj)} {a : Addr} {a1 a2 : Obj} (h : ∀ p ∈ old, p.1 < x.1) (ha : (a, a1) ∈ old) (hr : ∀ p ∈ R, p ∈ old) (k : Apart pre ((a, a2) :: R)) : Apart (x :: pre) ((a, a2) :: R) :=
  Apart.cons (fun q hq => by
    rcases List.mem_cons.mp hq with rfl | hq
    · exact Nat.ne_of_lt (h (a, a1) ha)
    exact Nat.ne_of_lt (h q (hr q hq))) k
theorem Apart.of_lt5 {x : Addr × Obj} {pre old R : List (Addr × Obj)} {a b c d : Addr} {a1 b1 c1 d1 a2 b2 c2 d2 : Obj} (h : ∀ p ∈ old, p.1 < x.1) (ha : (a, a1) ∈ old) (hb : (b, b1) ∈ old) (hc : (c, c1) ∈ old) (hd : (d, d1) ∈ old) (hr : ∀ p ∈ R, p ∈ old) (k : Apart pre ((a, a2) :: (b, b2) :: (c, c2) :: (d, d2) :: R)) : Apart (x :: pre) ((a, a2) :: (b, b2) :: (c, c2) :: (d, d2) :: R) :=
  Apart.cons (fun q hq => by
    rcases List.mem_cons.mp hq with rfl | hq
    · exact Nat.ne_of_lt (h (a, a1) ha)
    rcases List.mem_cons.mp hq with rfl | hq
    · exact Nat.ne_of_lt (h (b, b1) hb)
    rcases List.mem_cons.mp hq with rfl | hq
    · exact Nat.ne_of_lt (h (c, c1) hc)
    rcases List.mem_cons.mp hq with rfl | hq
    · exact Nat.ne_of_lt (h (d, d1) hd)
    exact Nat.ne_of_lt (h q (hr q hq))) k
theorem grp_snoc {w : World} {l l' : List (Addr × Obj)} {kvs kvs' : List (Int × Value)} {gs : List Nat} {bs : List (Array UInt8)} {m : Nat} {b : Array UInt8} {i : Nat}
    (hG : ∀ (j : Nat) m b, gs[j]? = some m → bs[j]? = some b → ∃ hv kvh, GrpAt w l kvs ((j : Int) + 1) hv kvh b (menuW m)) (hg : gs.length = i) (hb : bs.length = i) (hs : ∀ p ∈ l, p ∈ l') (hx : Ext kvs kvs')
    (hn : ∃ hv kvh, GrpAt w l' kvs' ((i : Int) + 1) hv kvh b (menuW m)) : ∀ (j : Nat) m' b', (gs ++ [m])[j]? = some m' → (bs ++ [b])[j]? = some b' → ∃ hv kvh, GrpAt w l' kvs' ((j : Int) + 1) hv kvh b' (menuW m') := by
  intro j m' b' e1 e2
  rcases Nat.lt_trichotomy j i with h | h | h
  · rw [List.getElem?_append_left (by omega)] at e1 e2
    obtain ⟨hv, kvh, g⟩ := hG j m' b' e1 e2
    exact ⟨hv, kvh, (g.sub hs).ext hx⟩
  · subst h
    rw [List.getElem?_append_right (by omega)] at e1 e2
    rw [hg, Nat.sub_self] at e1
    rw [hb, Nat.sub_self] at e2
    cases e1; cases e2
    exact hn
  · rw [List.getElem?_append_right (by omega)] at e1
    rw [hg] at e1
    obtain ⟨d, hd⟩ : ∃ d, j - i = d + 1 := ⟨j - i - 1, by omega⟩
    rw [hd] at e1
    cases e1
theorem Apart.five2 {pre K R0 : List (Addr × Obj)} {a b c d : Addr} {a1 b1 c1 d1 a2 b2 c2 d2 : Obj} (h : Apart K ((a, a1) :: (b, b1) :: (c, c1) :: (d, d1) :: R0)) (k : Apart K pre) :
    Apart K ((a, a2) :: (b, b2) :: (c, c2) :: (d, d2) :: (pre ++ R0)) := fun p hp q hq => by
  rcases List.mem_cons.mp hq with rfl | hq
  · exact h p hp (a, a1) (List.Mem.head _)
  rcases List.mem_cons.mp hq with rfl | hq
  · exact h p hp (b, b1) (List.Mem.tail _ (List.Mem.head _))
  rcases List.mem_cons.mp hq with rfl | hq
  · exact h p hp (c, c1) (List.Mem.tail _ (List.Mem.tail _ (List.Mem.head _)))
  rcases List.mem_cons.mp hq with rfl | hq
  · exact h p hp (d, d1) (List.Mem.tail _ (List.Mem.tail _ (List.Mem.tail _ (List.Mem.head _))))
  rcases List.mem_append.mp hq with hq | hq
  · exact k p hp q hq
  exact h p hp q (List.Mem.tail _ (List.Mem.tail _ (List.Mem.tail _ (List.Mem.tail _ hq))))
theorem Apart.ins {own ow K R : List (Addr × Obj)} {a b c d : Addr × Obj} (h : Apart ow (a :: b :: c :: d :: R)) (hs : ∀ p ∈ own, p ∈ ow) (k : Apart own K) : Apart own (a :: b :: c :: d :: (K ++ R)) := fun p hp q hq => by
  have g := h p (hs p hp)
  rcases List.mem_cons.mp hq with rfl | hq
  · exact g _ (List.Mem.head _)
  rcases List.mem_cons.mp hq with rfl | hq
  · exact g _ (List.Mem.tail _ (List.Mem.head _))
  rcases List.mem_cons.mp hq with rfl | hq
  · exact g _ (List.Mem.tail _ (List.Mem.tail _ (List.Mem.head _)))
  rcases List.mem_cons.mp hq with rfl | hq
  · exact g _ (List.Mem.tail _ (List.Mem.tail _ (List.Mem.tail _ (List.Mem.head _))))
  rcases List.mem_append.mp hq with hq | hq
  · exact k p hp q hq
  exact g q (List.Mem.tail _ (List.Mem.tail _ (List.Mem.tail _ (List.Mem.tail _ hq))))
-- part Doc1
theorem val_one {x k : Str} {v : Value} (h : (k == x) = false) : (valueAt [(x, v)] k).getD .none = .none := by
  have : ¬ x = k := fun e => by rw [e] at h; simp at h
  simp [valueAt, this]
theorem keyed_get {vs : List Value} {i : Nat} {k : Int} {v : Value} (h : (keyed vs)[i]? = some (k, v)) : k = (i : Int) + 1 ∧ vs[i]? = some v := by
  unfold keyed at h
  rw [List.getElem?_zip_eq_some] at h
  obtain ⟨a, b⟩ := h
  have hi : i < vs.length := by
    rcases Nat.lt_or_ge i vs.length with q | q
    · exact q
    · rw [List.getElem?_eq_none q] at b; cases b
  rw [upTo_get _ _ hi] at a
  exact ⟨(Option.some.inj a).symm, b⟩
theorem keyed_at : ∀ (n : Nat) (vs : List Value), vs.length = n → ∀ {i : Nat} {v : Value}, vs[i]? = some v → valueAt (keyed vs) ((i : Int) + 1) = some v
  | 0, vs, h, i, v, e => by
    rw [List.getElem?_eq_none (by omega)] at e; cases e
  | n + 1, vs, h, i, v, e => by
    rcases List.eq_nil_or_concat vs with rfl | ⟨ws, x, rfl⟩
    · simp at h
    · rw [List.concat_eq_append] at *
      rw [List.length_append, List.length_singleton] at h
      rw [keyed_snoc]
      rcases Nat.lt_or_ge i ws.length with q | q
      · rw [List.getElem?_append_left q] at e
        exact Ext.snoc _ _ (keyed_at n ws (by omega) e)
      · have hi : i = ws.length := by
          rcases Nat.lt_or_ge ws.length i with p | p
          · rw [List.getElem?_eq_none (by rw [List.length_append, List.length_singleton]; omega)] at e; cases e
          · omega
        subst hi
        rw [List.getElem?_append_right (Nat.le_refl _), Nat.sub_self] at e
        cases e
        exact at_snoc (keyed_none _)
theorem counted_nil {cw : List Str} {g : Nat → List Str} : IntsAre [] (counted cw g 0) := by
  unfold counted hits upTo
  split <;> exact .nil
theorem counted_all_succ {cw : List Str} {g : Nat → List Str} {n : Nat} (h : (cw.any (· == Str.ofString "All")) = true) : counted cw g (n + 1) = counted cw g n ++ [(n : Int) + 1] := by
  unfold counted
  rw [if_pos h, if_pos h, upTo_succ]
theorem counted_hit {cw : List Str} {g : Nat → List Str} {n : Nat} (h : (cw.any (· == Str.ofString "All")) = false) (k : hit cw (wordsOr (g n)) = true) : counted cw g (n + 1) = counted cw g n ++ [(n : Int) + 1] := by
  unfold counted
  rw [if_neg (by rw [h]; exact Bool.false_ne_true), if_neg (by rw [h]; exact Bool.false_ne_true), hits_succ, if_pos k]
theorem counted_miss {cw : List Str} {g : Nat → List Str} {n : Nat} (h : (cw.any (· == Str.ofString "All")) = false) (k : hit cw (wordsOr (g n)) = false) : counted cw g (n + 1) = counted cw g n := by
  unfold counted
  rw [if_neg (by rw [h]; exact Bool.false_ne_true), if_neg (by rw [h]; exact Bool.false_ne_true), hits_succ, if_neg (by rw [k]; exact Bool.false_ne_true)]
theorem menu_or {m : Nat} : (menuV m).isEmpty = true → wordsOr (menuW m) = [Str.ofString "View"] := fun h => by rw [menu_emp m h]; rfl
theorem menu_nor {m : Nat} (hm : m < 6) : (menuV m).isEmpty = false → wordsOr (menuW m) = menuW m := fun h => by
  have := (menu_len m hm h).1
  unfold wordsOr
  rw [if_neg (by intro e; rw [e] at this; simp at this)]
theorem map_get {gs : List Nat} {i : Nat} {v : Value} (h : (gs.map menuR)[i]? = some v) : ∃ gi, gs[i]? = some gi ∧ menuR gi = v := by
  rw [List.getElem?_map] at h
  cases e : gs[i]? with
  | none => rw [e] at h; cases h
  | some x => rw [e] at h; exact ⟨x, rfl, Option.some.inj h⟩
theorem menu_small : ∀ m : Nat, (menuV m).length ≤ 1000
  | 0 => by decide
  | 1 => by decide
  | 2 => by decide
  | 3 => by decide
  | 4 => by decide
  | 5 => by decide
  | _ + 6 => Nat.zero_le _
theorem menu_two : ∀ m : Nat, (menuW m).length ≤ 2
  | 0 => by decide
  | 1 => by decide
  | 2 => by decide
  | 3 => by decide
  | 4 => by decide
  | 5 => by decide
  | _ + 6 => Nat.zero_le _
theorem refs_snoc {nx nx' : List (Addr × Obj)} {ys : List Value} {y : Value} {i : Nat} (hl : ys.length = i) (h : ∀ (j : Nat) v, ys[j]? = some v → RefAt nx v ((j : Int) + 1)) (hs : ∀ p ∈ nx, p ∈ nx') (hy : RefAt nx' y ((i : Int) + 1)) :
    ∀ (j : Nat) v, (ys ++ [y])[j]? = some v → RefAt nx' v ((j : Int) + 1) := by
  intro j v e
  rcases Nat.lt_or_ge j ys.length with q | q
  · rw [List.getElem?_append_left q] at e
    exact (h j v e).sub hs
  · have hj : j = ys.length := by
      rcases Nat.lt_or_ge ys.length j with p | p
      · rw [List.getElem?_eq_none (by rw [List.length_append, List.length_singleton]; omega)] at e; cases e
      · omega
    subst hj
    rw [List.getElem?_append_right (Nat.le_refl _), Nat.sub_self] at e
    cases e
    rw [hl]; exact hy
inductive DocOut (w : World) (src cl : Addr) (cells : List Value) (nc : Nat) (rest : List (Addr × Obj)) (r' : Value) (n' : List (Addr × Obj)) : Prop
  | mk (r2 p2 t3 t4 n2 tl sh du dn tu nt oN gs bs mj vb kvs gl glv gn fv kvf xs nd : _) (e0 : n' = (src, srcO cl r2 p2 t3 t4 n2) :: tl) (e1 : (∀ p ∈ tl, p.1 ≠ src)) (e2 : (∀ p ∈ rest, p ∈ tl)) (e3 : (cl, listOf cells.toArray nc) ∈ tl) (e4 : 0 ≤ r2) (e5 : p2 ≤ 200) (e6 : r' = .ref tu) (e7 : (tu, tupO [.ref sh, .ref du, .ref dn] nt) ∈ n') (e8 : TopAt w n' sh kvs gl glv gn fv kvf) (e9 : glv.length ≤ 4) (e10 : List.length gs = glv.length) (e11 : List.length bs = glv.length) (e12 : (∀ (i : Nat) v, glv[i]? = some v → RefAt n' v ((i : Int) + 1))) (e13 : (∀ (j : Nat) m b, gs[j]? = some m → bs[j]? = some b → ∃ hv kvh, GrpAt w n' kvs ((j : Int) + 1) hv kvh b (menuW m))) (e14 : IntentAt n' ((valueAt kvf (Str.ofString "Intent")).getD .none) (menuW mj)) (e15 : (∀ k : Str, (k == Str.ofString "Intent") = false → (valueAt kvf k).getD .none = .none)) (e16 : (du, listOf (List.toArray xs) nd) ∈ n') (e17 : IntsAre xs (counted (wordsOr (menuW mj)) (fun j => menuW (gs.getD j 0)) glv.length)) (e18 : (dn, oN) ∈ n') (e19 : Obj.IsDictOf (PySem.intKind PySem.Challenge.rw_qd0128_01.prog w) oN (keyed vb)) (e20 : BytesAre vb bs) (e21 : (dn == sysModules) = false)
-- part Subp
def plainO (o : Obj) : Bool := match o.data with | .cell _ => false | _ => true
def SubP (l l' : List (Addr × Obj)) : Prop := ∀ p ∈ l, plainO p.2 = true → p ∈ l'
theorem dict_plain {K : Type} [DecidableEq K] {prog : Program} {w : World} {knd : PySem.KeyKind prog w K} {o : Obj} {kvs : List (K × Value)} (h : o.IsDictOf knd kvs) : plainO o = true := by
  obtain ⟨es, ep, _, h2, _⟩ := h
  unfold plainO
  rw [h2]
section
variable {w : World} {l l' : List (Addr × Obj)} (hs : SubP l l')
include hs
theorem RefAt.subp {v : Value} {k : Int} : RefAt l v k → RefAt l' v k := fun ⟨a, b, c, d, e, f, g, h, i, j, m, n⟩ => ⟨a, b, c, d, e, f, g, h, i, j, hs _ m rfl, hs _ n rfl⟩
theorem Cell.subp {v r : Value} : Cell l v r → Cell l' v r := fun ⟨a, b, c, d, m⟩ => ⟨a, b, c, d, hs _ m rfl⟩
theorem Res.subp {kvs : List (Int × Value)} {n : Nat} {v r : Value} (h : Res l kvs n v r) : Res l' kvs n v r := by
  induction h with
  | here => exact .here _
  | hop a b c _ ih => exact .hop (a.subp hs) b (c.subp hs) ih
theorem ShelfAt.subp {sh tr : Addr} {kvs : List (Int × Value)} : ShelfAt w l sh tr kvs → ShelfAt w l' sh tr kvs := fun ⟨a, b, c, d, e, f, g, h, m, n, o, p, q⟩ => ⟨a, b, c, d, e, f, g, h, hs _ m rfl, hs _ n rfl, hs _ o (dict_plain p), p, q⟩
theorem StrDict.subp {v : Value} {kvs : List (Str × Value)} : StrDict w l v kvs → StrDict w l' v kvs := fun ⟨a, b, c, d, e, f⟩ => ⟨a, b, c, hs _ d (dict_plain e), e, f⟩
theorem NameAt.subp {v : Value} {x : Str} : NameAt l v x → NameAt l' v x := fun ⟨a, b, c, d, e, f, g, h, i⟩ => ⟨a, b, c, d, e, f, g, hs _ h rfl, hs _ i rfl⟩
theorem StringAt.subp {v : Value} {x : Array UInt8} : StringAt l v x → StringAt l' v x := fun ⟨a, b, c, d, e, f, g, h, i, j, k⟩ => ⟨a, b, c, d, e, f, g, h, i, hs _ j rfl, hs _ k rfl⟩
theorem NamesAre.subp {vs : List Value} {ws : List Str} (h : NamesAre l vs ws) : NamesAre l' vs ws := by
  induction h with
  | nil => exact .nil
  | cons a _ ih => exact .cons (a.subp hs) ih
theorem IntentAt.subp {v : Value} {ws : List Str} : IntentAt l v ws → IntentAt l' v ws := by
  intro h
  cases h with
  | none => exact .none
  | one a => exact .one (a.subp hs)
  | list a b c d => exact .list (hs _ a rfl) (b.subp hs) c d
theorem TopAt.subp {sh : Addr} {kvs : List (Int × Value)} {gl : Addr} {glv : List Value} {gn : Nat} {fv : Value} {kvf : List (Str × Value)} : TopAt w l sh kvs gl glv gn fv kvf → TopAt w l' sh kvs gl glv gn fv kvf :=
  fun ⟨tr, kvt, rv, kvr, ov, kvo, a, b, c, d, e, f, g, h, i, j⟩ => ⟨tr, kvt, rv, kvr, ov, kvo, a.subp hs, b.subp hs, c, d.subp hs, e, f.subp hs, g, hs _ h rfl, i, j.subp hs⟩
theorem GrpAt.subp {kvs : List (Int × Value)} {hv : Value} {k : Int} {kvh : List (Str × Value)} {nm : Array UInt8} {ws : List Str} : GrpAt w l kvs k hv kvh nm ws → GrpAt w l' kvs k hv kvh nm ws :=
  fun ⟨⟨c, v₀, n, a1, a2, a3, a4⟩, d, ⟨tv, e, f⟩, ⟨sv, g, i⟩, j⟩ => ⟨⟨c, v₀, n, a1, a2.subp hs, a3.subp hs, a4⟩, d.subp hs, ⟨tv, e, f.subp hs⟩, ⟨sv, g, i.subp hs⟩, j.subp hs⟩
end
def plains (l : List (Addr × Obj)) : List (Addr × Obj) := l.filter fun p => plainO p.2
theorem plains_sub {a : Addr × Obj} {l : List (Addr × Obj)} : SubP (a :: l) (a :: plains l) := fun p hp h => by
  rcases List.mem_cons.mp hp with rfl | hp
  · exact List.Mem.head _
  · exact List.Mem.tail _ (List.mem_filter.mpr ⟨hp, h⟩)
theorem plains_out {h₀ h : Heap} {L c1 c2 src : Addr} {o1 o2 so : Obj} {d1 d2 : Option Value} {tl : List (Addr × Obj)} (N : News h₀ L h ((src, so) :: tl)) (m1 : (c1, o1) ∈ tl) (m2 : (c2, o2) ∈ tl) (e1 : o1.data = .cell d1) (e2 : o2.data = .cell d2) (hp : plainO so = true) :
    News h₀ L h ((c1, o1) :: (c2, o2) :: (src, so) :: plains tl) ∧ (∀ p ∈ plains tl, p.1 ≠ c1) ∧ (∀ p ∈ plains tl, p.1 ≠ c2) ∧ @Ne Nat src c1 ∧ @Ne Nat src c2 := by
  have off : ∀ {c : Addr} {o : Obj} {d : Option Value}, (c, o) ∈ tl → o.data = .cell d → ∀ p ∈ plains tl, p.1 ≠ c := by
    intro c o d m e p hp hc
    obtain ⟨h1, h2⟩ := List.mem_filter.mp hp
    have a := (N _ (List.Mem.tail _ m)).1
    have b := (N _ (List.Mem.tail _ h1)).1
    rw [hc, a] at b
    cases b
    unfold plainO at h2
    rw [e] at h2
    cases h2
  have off2 : ∀ {c : Addr} {o : Obj} {d : Option Value}, (c, o) ∈ tl → o.data = .cell d → @Ne Nat src c := by
    intro c o d m e hc
    have a := (N _ (List.Mem.tail _ m)).1
    have b := (N _ (List.Mem.head _)).1
    dsimp only at a b
    rw [hc, a] at b
    cases b
    unfold plainO at hp
    rw [e] at hp
    cases hp
  refine ⟨fun p hp => ?_, off m1 e1, off m2 e2, off2 m1 e1, off2 m2 e2⟩
  rcases List.mem_cons.mp hp with rfl | hp
  · exact N _ (List.Mem.tail _ m1)
  rcases List.mem_cons.mp hp with rfl | hp
  · exact N _ (List.Mem.tail _ m2)
  rcases List.mem_cons.mp hp with rfl | hp
  · exact N _ (List.Mem.head _)
  · exact N _ (List.Mem.tail _ (List.mem_filter.mp hp).1)
-- part SightD
abbrev sightO (h1 h2 h3 : Int) (k1 k2 k3 : Tok) (lm lo : Addr) (k : Int) (t : Tok) : Obj := dictOf [⟨h1, .str (Str.ofString "marks") k1, .ref lm⟩, ⟨h2, .str (Str.ofString "modes") k2, .ref lo⟩, ⟨h3, .str (Str.ofString "mode") k3, .int k t⟩] 3
inductive NewSight (news : List (Addr × Obj)) (v : Value) (n' : List (Addr × Obj)) : Prop
  | mk (sg dsg lm lo h1 h2 h3 k1 k2 k3 t : _) (e0 : v = .ref sg) (e1 : n' = (dsg, sightO h1 h2 h3 k1 k2 k3 lm lo 0 t) :: (lo, listOf (List.toArray []) 0) :: (lm, listOf (List.toArray []) 0) :: (sg, instObj 535 dsg) :: news) (e2 : (∀ p ∈ news, p.1 < dsg)) (e3 : @LT.lt Nat _ dsg sg) (e4 : @LT.lt Nat _ sg lm) (e5 : @LT.lt Nat _ lm lo)
theorem sight_mk (w : World) (news : List (Addr × Obj)) : Ctr w 535 2 [] news (fun r' n' => NewSight news r' n') := by
  unfold Ctr
  k_fill
  k_with_none
  intros; rename_i hret
  k_with_none
  k_steps
  (rename News _ _ _ _ => lN)
  refine nm 0 _ _ rfl lN ?_
  intro lo olo e1 e2; subst e1; subst e2
  refine nm 1 _ _ rfl lN ?_
  intro lm olm e1 e2; subst e1; subst e2
  refine nm 2 _ _ rfl lN ?_
  intro sg osg e1 e2; subst e1; subst e2
  refine nm 3 _ _ rfl lN ?_
  intro dsg ods e1 e2; subst e1; subst e2
  all_goals (refine' hret _ _ _ _ ?e1 ?e2 ?e3; (case e1 => k_asm); (case e2 => exact cb_drop (news := (dsg, sightO _ _ _ _ _ _ lm lo 0 _) :: (lo, listOf (List.toArray []) 0) :: (lm, listOf (List.toArray []) 0) :: (sg, instObj 535 dsg) :: news) (by k_asm) (by tb_rel)); (case e3 => exact ⟨_, _, _, _, _, _, _, _, _, _, _, rfl, rfl, by assumption, by first | assumption | omega, by first | assumption | omega, by first | assumption | omega⟩))
section
set_option hygiene false in
local macro_rules | `(tactic| walk_at "call ref") => `(tactic| first | k_extra "call!" | (refine held ?_))
-- part Cnt
theorem counted_all (w : World) (news : List (Addr × Obj)) (sh : Addr) (kvs : List (Int × Value)) (gl : Addr) (glv : List Value) (gn : Nat) (fv cv : Value) (kvf : List (Str × Value)) (cw : List Str) (g : Nat → List Str) (hT : TopAt w news sh kvs gl glv gn fv kvf) (hlen : glv.length ≤ 4) (hg : ∀ (i : Nat) v, glv[i]? = some v → ∃ hv kvh nm, RefAt news v ((i : Int) + 1) ∧ GrpAt w news kvs ((i : Int) + 1) hv kvh nm (g i)) (hcf : ConfAt news cv cw) (hall : (cw.any (· == Str.ofString "All")) = true) : Ctr w 499 9 [.ref sh, cv] news (fun r' n' => ∃ l xs n3, Value.ref l = r' ∧ (l, listOf xs.toArray n3) :: news = n' ∧ IntsAre xs (upTo glv.length)) := by
  unfold Ctr
  k_fill
  k_with_none
  have hT' := hT
  obtain ⟨tr, kvt, rv, kvr, ov, kvo, hsh, ht, hr, hrd, hop, hod, hg1, hg2, hf1, hf2⟩ := hT
  have hsh' := hsh
  obtain ⟨dsh, T, h1, k1, h2, k2, c, oT, m1, m2, m3, hDT, loT⟩ := hsh
  have hcf' := hcf
  obtain ⟨cf, dcf, g1, g2, g3, g4, g5, g6, g7, j1, j2, j3, j4, j5, j6, j7, v1, v2, v3, v4, v5, v6, lw, xw, nw, cc, ecf, mc1, mc2, mc3, hxw⟩ := hcf
  subst ecf
  intros; rename_i hret
  refine (let A9 : Around := _; (?_ : wpAny _ A9 _ _ _ _))
  refine wpAny_call ?_
  k_dflt (refine' code_defC ?k1 ?k2 ?k3 ?k4 ?k5 ?kA ?kF ?kK ?k6 ?k7 ?k8 ?k9 ?kB ?kD ?_ ?c2 ?c3 ?c4; (case kA => exact rfl); (case kF => exact rfl); (case kK => first | assumption | exact rfl); (case k1 => k_asm); (case k2 => k_asm); (case k3 => k_asm); (case k4 => k_asm); (case k5 => k_asm); (case k6 => k_is); (case k7 => k_is); (case k8 => ktr_room); (case k9 => first | exact BindsTo.of_eq rfl | exact binds_K (by k_in) rfl (by k_is) rfl rfl rfl); (case kB => exact rfl); (case kD => decide +kernel); (case c2 => exact rfl); (case c3 => exact rfl); (case c4 => exact rfl); k_whole; intro g' L' h' tk' cells' FG' F' N' Y' B' X' T' l1; k_cells Y'; (try simp only [List.cons_append, List.nil_append] at N'); (try dsimp only); (try k_lift B'); (try k_fold))
  refine (let B9 : Around := _; (?_ : wpAny _ B9 _ _ _ _))
  (rename Fr _ _ _ _ => lF)
  replace lF := fr_fold [((Str.ofString "shelf"), .ref sh)] lF (by tb_start)
  obtain ⟨u, lF⟩ := lF
  dsimp only [kstB] at lF
  k_with_none
  k_with "compareOp In str ref" => (k_dflt (refine' in_L ?N ?m ?hx ?hb ?_); (case N => k_asm); (case m => k_mem); (case hx => assumption); (case hb => assumption))
  k_with "call!" => ((with_reducible show wpAny _ _ (call (Value.ref 450) _) _ _ _); k_dflt (refine' Ctr.use ?kC ?k1 ?k2 ?k3 ?k4 ?k5 ?kK ?kd ?ku ?_); (case k4 => k_asm); (case kC => k_dflt (exact group_numbers_ok w _ sh kvs gl glv gn fv kvf (hT'.sub (by tb_rel)) hlen (fun i v hi => let ⟨a, b, nm, c, d⟩ := hg i v hi; ⟨a, b, (d.gok c).sub (by tb_rel)⟩))); (case k1 => k_asm); (case k2 => k_asm); (case k3 => k_asm); (case k5 => k_asm); (case kK => first | exact rfl | assumption); (case kd => ktr_room); (case ku => ktr_units); intro r9 n9 h9 tk9 F9 N9 p9; (obtain ⟨lf9, xs9, n39, e8, e9, hlt9, hxs9⟩ := p9; subst e8; subst e9); (try dsimp only); (try k_fold))
  wrow_steps
  all_goals (refine' hret _ _ _ _ ?e1 ?e2 ?e3; (case e1 => k_asm); (case e2 => exact cb_drop (news := (lf9, _) :: news) (by k_asm) (by tb_rel)); (case e3 => exact ⟨_, _, _, rfl, rfl, hxs9⟩))
theorem counted_some (w : World) (news : List (Addr × Obj)) (sh : Addr) (kvs : List (Int × Value)) (gl : Addr) (glv : List Value) (gn : Nat) (fv cv : Value) (kvf : List (Str × Value)) (cw : List Str) (g : Nat → List Str) (hT : TopAt w news sh kvs gl glv gn fv kvf) (hlen : glv.length ≤ 4) (hg : ∀ (i : Nat) v, glv[i]? = some v → ∃ hv kvh nm, RefAt news v ((i : Int) + 1) ∧ GrpAt w news kvs ((i : Int) + 1) hv kvh nm (g i)) (hcf : ConfAt news cv cw) (hall : (cw.any (· == Str.ofString "All")) = false) : Ctr w 499 9 [.ref sh, cv] news (fun r' n' => ∃ l xs n3, Value.ref l = r' ∧ (l, listOf xs.toArray n3) :: news = n' ∧ IntsAre xs (hits cw g glv.length)) := by
  unfold Ctr
  k_fill
  k_with_none
  have hT' := hT
  obtain ⟨tr, kvt, rv, kvr, ov, kvo, hsh, ht, hr, hrd, hop, hod, hg1, hg2, hf1, hf2⟩ := hT
  have hsh' := hsh
  obtain ⟨dsh, T, h1, k1, h2, k2, c, oT, m1, m2, m3, hDT, loT⟩ := hsh
  have hcf' := hcf
  obtain ⟨cf, dcf, g1, g2, g3, g4, g5, g6, g7, j1, j2, j3, j4, j5, j6, j7, v1, v2, v3, v4, v5, v6, lw, xw, nw, cc, ecf, mc1, mc2, mc3, hxw⟩ := hcf
  subst ecf
  intros; rename_i hret
  refine (let A9 : Around := _; (?_ : wpAny _ A9 _ _ _ _))
  refine wpAny_call ?_
  k_dflt (refine' code_defC ?k1 ?k2 ?k3 ?k4 ?k5 ?kA ?kF ?kK ?k6 ?k7 ?k8 ?k9 ?kB ?kD ?_ ?c2 ?c3 ?c4; (case kA => exact rfl); (case kF => exact rfl); (case kK => first | assumption | exact rfl); (case k1 => k_asm); (case k2 => k_asm); (case k3 => k_asm); (case k4 => k_asm); (case k5 => k_asm); (case k6 => k_is); (case k7 => k_is); (case k8 => ktr_room); (case k9 => first | exact BindsTo.of_eq rfl | exact binds_K (by k_in) rfl (by k_is) rfl rfl rfl); (case kB => exact rfl); (case kD => decide +kernel); (case c2 => exact rfl); (case c3 => exact rfl); (case c4 => exact rfl); k_whole; intro g' L' h' tk' cells' FG' F' N' Y' B' X' T' l1; k_cells Y'; (try simp only [List.cons_append, List.nil_append] at N'); (try dsimp only); (try k_lift B'); (try k_fold))
  refine (let B9 : Around := _; (?_ : wpAny _ B9 _ _ _ _))
  (rename Fr _ _ _ _ => lF)
  replace lF := fr_fold [((Str.ofString "shelf"), .ref sh)] lF (by tb_start)
  obtain ⟨u, lF⟩ := lF
  dsimp only [kstB] at lF
  k_with_none
  k_with "compareOp In str ref" => (k_dflt (refine' in_L ?N ?m ?hx ?hb ?_); (case N => k_asm); (case m => k_mem); (case hx => assumption); (case hb => assumption))
  k_with "call!" => ((with_reducible show wpAny _ _ (call (Value.ref 450) _) _ _ _); k_dflt (refine' Ctr.use ?kC ?k1 ?k2 ?k3 ?k4 ?k5 ?kK ?kd ?ku ?_); (case k4 => k_asm); (case kC => k_dflt (exact group_numbers_ok w _ sh kvs gl glv gn fv kvf (hT'.sub (by tb_rel)) hlen (fun i v hi => let ⟨a, b, nm, c, d⟩ := hg i v hi; ⟨a, b, (d.gok c).sub (by tb_rel)⟩))); (case k1 => k_asm); (case k2 => k_asm); (case k3 => k_asm); (case k5 => k_asm); (case kK => first | exact rfl | assumption); (case kd => ktr_room); (case ku => ktr_units); intro r9 n9 h9 tk9 F9 N9 p9; (obtain ⟨lf9, xs9, n39, e8, e9, hlt9, hxs9⟩ := p9; subst e8; subst e9); (try dsimp only); (try k_fold))
  wrow_steps
  rename (_ < _ ∧ AllLt _ _) => hll
  refine name_lt hll ?_
  intro lf e5
  subst e5
  rename (_ = Data.cell _) => hcd
  refine name_cell hcd ?_
  intro oc e5
  subst e5
  unfold Held
  (rename Fr _ _ _ _ => lF); (rename News _ _ _ _ => lN)
  refine tail_of lN ?_
  intro tl etl
  replace lN := cb_drop (news := (lf, listOf (List.toArray []) 0) :: (lf9, listOf xs9.toArray n39) :: tl) lN (by subst etl; tb_rel)
  with_unfolding_all refine' list_rule (vs := xs9) (ps₀ := [((Str.ofString "shelf"), .ref sh), ((Str.ofString "found"), .ref lf)]) (fun i ps nx => ∃ xs n3, (lf, listOf xs.toArray n3) :: (lf9, listOf xs9.toArray n39) :: tl = nx ∧ IntsAre xs (hits cw g i) ∧ [((Str.ofString "shelf"), .ref sh), ((Str.ofString "found"), .ref lf)] = ps) (by rfl) ?hl ?hll lF lN (by tb_start) ?j0 ?turn ?done
  case hl => exact News.isList (by k_asm) (by k_mem)
  case hll => exact (lN (lf9, _) (by k_mem)).2.1
  case j0 => exact ⟨[], 0, rfl, .nil, rfl⟩
  case done =>
    intro ps nx u h tk hJ hc' F N
    obtain ⟨xs, n3, e1, hxs, e2⟩ := hJ
    subst e1; subst e2; subst etl
    wrow_steps
    all_goals (refine' hret _ _ _ _ ?e1 ?e2 ?e3; (case e1 => k_asm); (case e2 => exact cb_drop (news := (lf, _) :: news) (by k_asm) (by tb_rel)); (case e3 => exact ⟨lf, xs, n3, rfl, rfl, (by rw [hxs9.length, upTo_length] at hxs; exact hxs)⟩))
  clear lF lN
  intro i v ps nx u h tk own hi hJ hc' hoff F N
  obtain ⟨xs, n3, e1, hxs, e2⟩ := hJ
  subst e1; subst e2
  dsimp only [kstB, envOf, envOfC, envX] at F N hoff
  obtain ⟨k, t, hk, ev⟩ := ints_get hxs9 hi
  subst ev
  have hilt : i < glv.length := by
    rcases Nat.lt_or_ge i glv.length with q | q
    · exact q
    · rw [List.getElem?_eq_none (by rw [upTo_length]; exact q)] at hk; cases hk
  rw [upTo_get _ _ hilt] at hk
  obtain rfl := Option.some.inj hk
  obtain ⟨v0, hv0⟩ : ∃ v0, glv[i]? = some v0 := ⟨_, List.getElem?_eq_getElem hilt⟩
  obtain ⟨hv', kvh, nm, hra, hG⟩ := hg i v0 hv0
  obtain ⟨⟨c0, v0', nn, hc0, hcell, hres, hn⟩, hsd, _, _, hI⟩ := hG
  obtain ⟨tp, b1, b2, e2, m6⟩ := hcell
  subst e2
  have hl9 : lf < lf9 := hlt9 _ (List.Mem.head _)
  have hne : ∀ p ∈ own ++ (lf9, listOf xs9.toArray n39) :: tl, p.1 ≠ lf := by
    intro p hp
    rcases List.mem_append.mp hp with hp | hp
    · exact hoff p hp (lf, _) (List.Mem.head _) (Nat.ne_of_lt hl9)
    · rcases List.mem_cons.mp hp with rfl | hp
      · exact Nat.ne_of_gt hl9
      · rw [etl] at hp
        rcases List.mem_cons.mp hp with rfl | hp
        · exact Nat.ne_of_lt hll.1
        · exact Nat.ne_of_lt (allLt_mem hll.2 p hp)
  subst etl
  k_with "subscriptTail" => ((with_reducible show wpAny _ _ (subscriptTail _ _ (Value.ref T) _) _ _ _); k_dflt (refine' kdt_tail (knd := PySem.intKind _ _) ?N ?m hDT ?_); (case N => k_asm); (case m => k_mem))
  k_with "getItem ref int" => ((with_reducible show wpAny _ _ (getItem (Value.ref T) _) _ _ _); k_dflt (refine' kdt_getItem (knd := PySem.intKind _ _) ?N ?m hDT (intKind_is _ _ _ _) hc0 ?_); (case N => k_asm); (case m => k_mem))
  k_with "method!" => (k_dflt (refine' method_inst ?k1 ?k2 ?k3 ?k4 ?k5 ?k6 ?k7 ?_); (case k1 => k_asm); (case k2 => k_asm); (case k3 => k_inst); (case k4 => k_is); (case k5 => k_is); (case k6 => k_is); (case k7 => k_get); k_whole)
  k_with "call!" => ((with_reducible show wpAny _ _ (call (Value.ref 313) _) _ _ _); k_dflt (refine' Ctr.use ?kC ?k1 ?k2 ?k3 ?k4 ?k5 ?kK ?kd ?ku ?_); (case k4 => k_asm); (case kC => k_dflt (exact fetch_ok w _ kvs sh tr v0' hv' _ nn (hsh'.sub (by tb_rel)) (hres.sub (by tb_rel)) (by omega) (hsd.knd.sub (by tb_rel)) (noRef_dict w))); (case k1 => k_asm); (case k2 => k_asm); (case k3 => k_asm); (case k5 => k_asm); (case kK => first | exact rfl | assumption); (case kd => ktr_room); (case ku => ktr_units); intro r9 n9 h9 tk9 F9 N9 p9; (obtain ⟨e8, e9⟩ := p9; subst e8; subst e9); (try dsimp only); (try k_fold))
  k_with "call!" => ((with_reducible show wpAny _ _ (call (Value.ref 462) _) _ _ _); k_dflt (refine' Ctr.use ?kC ?k1 ?k2 ?k3 ?k4 ?k5 ?kK ?kd ?ku ?_); (case k4 => k_asm); (case kC => k_dflt (exact purposes_ok w _ kvs sh tr hv' _ kvh (hsh'.sub (by tb_rel)) (hsd.sub (by tb_rel)) rfl (g i) (hI.sub (by tb_rel)))); (case k1 => k_asm); (case k2 => k_asm); (case k3 => k_asm); (case k5 => k_asm); (case kK => first | exact rfl | assumption); (case kd => ktr_room); (case ku => ktr_units); intro r9 n9 h9 tk9 F9 N9 p9; (obtain ⟨l8, xs8, n38, e8, e9, hx9⟩ := p9; subst e8; subst e9); (try dsimp only); (try k_fold))
  wrow_steps
  unfold Held
  k_dflt (refine' compT_same (xs := xs8) (fun j ys => StrsAre ys (((wordsOr (g i)).take j).filter fun x => cw.any (· == x))) (by rfl) ?F9 ?N9 ?m9 ?z9 ?j09 ?turn9 ?fin9)
  case F9 => k_asm
  case N9 => k_asm
  case m9 => k_mem
  case z9 => (have h9 := StrsAre.length hx9; have h8 := wordsOr_length (IntentAt.length hI); omega)
  case j09 => exact .nil
  case turn9 =>
    intro i v ys I oI C oC D m₂ h tk E' hv hJ hS hC hx F N o3 n3
    have hi9 := hv
    obtain ⟨x, t, hxq, ev⟩ := strs_get hx9 hv
    subst ev
    cases hb : (cw.any (· == x)) with
    | true =>
      wrow_steps
      unfold Held
      (k_dflt (refine' end_same ?F ?N ?sub ?off ?hS ?r); (case F => k_asm); (case N => k_asm); (case sub => tb_rel); (case off => assumption); (case hS => assumption); (case r => (rw [take_snoc hxq, List.filter_append, List.filter_cons_of_pos (by exact hb), List.filter_nil]; exact kct_snoc hJ)))
    | false =>
      wrow_steps
      unfold Held
      (k_dflt (refine' end_same ?F ?N ?sub ?off ?hS ?r); (case F => k_asm); (case N => k_asm); (case sub => tb_rel); (case off => assumption); (case hS => assumption); (case r => (rw [take_snoc hxq, List.filter_append, List.filter_cons_of_neg (by rw [hb]; exact Bool.false_ne_true), List.filter_nil, List.append_nil]; exact hJ)))
  case fin9 =>
    intro g9 ys hJ
    rw [hx9.length, List.take_length] at hJ
    unfold LCg.FinE
    intro D h tk F N o1
    have hq := filter_ne hJ
    cases hb : hit cw (wordsOr (g i)) with
    | true =>
      have hq9 := hq.trans hb
      k_with "compareOp NotEq ref ref" => (k_dflt (refine' ne_nil_L ?N ?ml ?mb ?u ?ht ?_); (case N => k_asm); (case ml => k_mem); (case mb => k_mem); (case u => ktr_units); (case ht => exact hq9))
      k_with "call builtin:list.append" => (k_dflt (refine' append_L (own ++ (lf9, listOf xs9.toArray n39) :: (L' + 1, oc) :: news) ?aF ?aN ?am ?ak hne ?az ?_); (case aF => k_asm); (case aN => k_asm); (case am => k_mem); (case ak => tb_rel); (case az => (have hx5 := hxs.length; have hx6 := hits_length cw g i; omega)); intro h' F' N')
      wrow_steps
      unfold Held
      refine' TurnPost.next (ps' := [((Str.ofString "shelf"), .ref sh), ((Str.ofString "found"), .ref lf)]) (nx' := (lf, listOf (xs ++ [Value.int ((i : Int) + 1) t]).toArray (n3 + 1)) :: (lf9, listOf xs9.toArray n39) :: (L' + 1, oc) :: news) ?tF ?tN ?tn ?tc ?tk ?tJ
      (case tF => k_asm)
      (case tN => k_asm)
      (case tn => tb_rel)
      (case tc => exact Itc.cons rfl (Itc.sub hc' (by tb_rel)))
      (case tk => tb_start)
      (case tJ => exact ⟨_, _, rfl, (by rw [hits_succ, if_pos hb]; exact IntsAre.snoc hxs _ _), rfl⟩)
    | false =>
      have hq9 := hq.trans hb
      k_with "compareOp NotEq ref ref" => (k_dflt (refine' ne_nil_L ?N ?ml ?mb ?u ?ht ?_); (case N => k_asm); (case ml => k_mem); (case mb => k_mem); (case u => ktr_units); (case ht => exact hq9))
      wrow_steps
      unfold Held
      refine' TurnPost.next (ps' := [((Str.ofString "shelf"), .ref sh), ((Str.ofString "found"), .ref lf)]) (nx' := (lf, listOf xs.toArray n3) :: (lf9, listOf xs9.toArray n39) :: (L' + 1, oc) :: news) ?tF ?tN ?tn ?tc ?tk ?tJ
      (case tF => k_asm)
      (case tN => k_asm)
      (case tn => tb_rel)
      (case tc => exact Itc.cons rfl (Itc.sub hc' (by tb_rel)))
      (case tk => tb_start)
      (case tJ => exact ⟨_, _, rfl, (by rw [hits_succ, if_neg (by rw [hb]; exact Bool.false_ne_true)]; exact hxs), rfl⟩)
end
end
section
set_option hygiene false in
local macro_rules | `(tactic| walk_at "call ref") => `(tactic| first | k_extra "call!" | (refine held ?_))
section
set_option hygiene false in
local macro_rules | `(tactic| kt_at_method) => `(tactic| first | (apply NeAll.of; with_reducible assumption) | with_reducible apply NeAll.nil | (with_reducible apply NeAll.ofLt; simp only [AllLt, and_true]; with_reducible assumption) | ((with_reducible apply NeAll.cons); (focus k_ne); kt_at_method) | ((with_reducible apply NeAll.app); (focus kt_at_method); kt_at_method) | (apply NeAll.of; exact Apart.ne (by with_reducible assumption) (by k_mem)) | skip)
section
local macro_rules | `(tactic| walk_at "zz40") => `(tactic| skip)
-- part Kind
theorem DecAt.knd {w : World} {l : List (Addr × Obj)} {v : Value} {x y : Int} (h : DecAt l v x y) : Knd w l v (.ref 155) := by
  have : PySem.Challenge.rw_qd0128_01.foot = PySem.Challenge.rw_qd0128_01.foot := rfl
  obtain ⟨a, da, h1, k1, t1, h2, k2, t2, c, rfl, m1, m2⟩ := h
  refine ⟨fun N => ⟨_, kitx_own ?k4 ?k5 ?k6 ?k7 ?k8 ?k9, ⟨(N _ m1).1, rfl, rfl, (N _ m2).1⟩⟩, fun e => nomatch e⟩
  all_goals (revert this; k_fill; intro this; k_is)
theorem kind_int (w : World) (news : List (Addr × Obj)) (k : Int) (tk : Tok) : Ctr w 272 2 [.int k tk] news (fun r' n' => (∃ t, Value.str (Str.ofString "int") t = r') ∧ news = n') := by
  unfold Ctr
  k_fill
  k_with_none
  intros; rename_i hret
  refine (let A9 : Around := _; (?_ : wpAny _ A9 _ _ _ _))
  refine wpAny_call ?_
  k_dflt (refine' code_def ?k1 ?k2 ?k3 ?k4 ?k5 ?kA ?kF ?kK ?k6 ?k7 ?k8 ?k9 ?kB ?_ ?c2 ?c3 ?c4 ?c5; (case kA => exact rfl); (case kF => exact rfl); (case kK => first | assumption | exact rfl); (case k1 => k_asm); (case k2 => k_asm); (case k3 => k_asm); (case k4 => k_asm); (case k5 => k_asm); (case k6 => k_is); (case k7 => k_is); (case k8 => ktr_room); (case k9 => first | exact BindsTo.of_eq rfl | exact binds_K (by k_in) rfl (by k_is) rfl rfl rfl); (case c5 => decide); (case kB => exact locs rfl); (case c2 => exact rfl); (case c3 => exact rfl); (case c4 => exact rfl); k_whole; intro g' L' h' FG' F' N' B' X' T'; (try dsimp only); (try k_lift B'); (try k_fold))
  refine (let e9 : Env := _; (?_ : wpAny _ (Around.deeper _ e9) (execs _ e9) _ _ _))
  refine (let B9 : Around := _; (?_ : wpAny _ B9 _ _ _ _))
  (rename Fr _ _ _ _ => lF)
  replace lF := fr_fold [((Str.ofString "value"), .int k tk)] lF (by tb_start)
  obtain ⟨u, lF⟩ := lF
  dsimp only [kstB] at lF
  k_with_none
  k_steps
  all_goals (refine' hret _ _ _ _ ?e1 ?e2 ?e3; (case e1 => k_asm); (case e2 => k_asm); (case e3 => exact ⟨⟨_, rfl⟩, rfl⟩))
theorem kind_dec (w : World) (news : List (Addr × Obj)) (v : Value) (x y : Int) (hd : DecAt news v x y) : Ctr w 272 2 [v] news (fun r' n' => (∃ t, Value.str (Str.ofString "real") t = r') ∧ news = n') := by
  unfold Ctr
  k_fill
  k_with_none
  have hd' := hd
  obtain ⟨a, da, h1, k1, t1, h2, k2, t2, c, ev, m1, m2⟩ := hd'
  subst ev
  intros; rename_i hret
  refine (let A9 : Around := _; (?_ : wpAny _ A9 _ _ _ _))
  refine wpAny_call ?_
  k_dflt (refine' code_def ?k1 ?k2 ?k3 ?k4 ?k5 ?kA ?kF ?kK ?k6 ?k7 ?k8 ?k9 ?kB ?_ ?c2 ?c3 ?c4 ?c5; (case kA => exact rfl); (case kF => exact rfl); (case kK => first | assumption | exact rfl); (case k1 => k_asm); (case k2 => k_asm); (case k3 => k_asm); (case k4 => k_asm); (case k5 => k_asm); (case k6 => k_is); (case k7 => k_is); (case k8 => ktr_room); (case k9 => first | exact BindsTo.of_eq rfl | exact binds_K (by k_in) rfl (by k_is) rfl rfl rfl); (case c5 => decide); (case kB => exact locs rfl); (case c2 => exact rfl); (case c3 => exact rfl); (case c4 => exact rfl); k_whole; intro g' L' h' FG' F' N' B' X' T'; (try dsimp only); (try k_lift B'); (try k_fold))
  refine (let e9 : Env := _; (?_ : wpAny _ (Around.deeper _ e9) (execs _ e9) _ _ _))
  refine (let B9 : Around := _; (?_ : wpAny _ B9 _ _ _ _))
  (rename Fr _ _ _ _ => lF)
  replace lF := fr_fold [((Str.ofString "value"), .ref a)] lF (by tb_start)
  obtain ⟨u, lF⟩ := lF
  dsimp only [kstB] at lF
  k_with_none
  k_with "isi!" => (k_dflt (refine' Knd.isi (b := true) ?k ?N ?X ?e ?_); (case N => k_asm); (case k => k_dflt (exact hd.knd.sub (by tb_rel))); (case X => k_in); (case e => kit_is); k_whole; intro tk')
  k_with "isi!" => (k_dflt (refine' Knd.isi (b := false) ?k ?N ?X ?e ?_); (case N => k_asm); (case k => k_dflt (exact hd.knd.sub (by tb_rel))); (case X => k_in); (case e => kit_is); k_whole; intro tk')
  k_steps
  all_goals (refine' hret _ _ _ _ ?e1 ?e2 ?e3; (case e1 => k_asm); (case e2 => k_asm); (case e3 => exact ⟨⟨_, rfl⟩, rfl⟩))
theorem num_int (w : World) (news : List (Addr × Obj)) (k : Int) (tk : Tok) : Ctr w 279 3 [.int k tk] news (fun r' n' => Value.bool true = r' ∧ news = n') := by
  unfold Ctr
  k_fill
  k_with_none
  intros; rename_i hret
  refine (let A9 : Around := _; (?_ : wpAny _ A9 _ _ _ _))
  refine wpAny_call ?_
  k_dflt (refine' code_def ?k1 ?k2 ?k3 ?k4 ?k5 ?kA ?kF ?kK ?k6 ?k7 ?k8 ?k9 ?kB ?_ ?c2 ?c3 ?c4 ?c5; (case kA => exact rfl); (case kF => exact rfl); (case kK => first | assumption | exact rfl); (case k1 => k_asm); (case k2 => k_asm); (case k3 => k_asm); (case k4 => k_asm); (case k5 => k_asm); (case k6 => k_is); (case k7 => k_is); (case k8 => ktr_room); (case k9 => first | exact BindsTo.of_eq rfl | exact binds_K (by k_in) rfl (by k_is) rfl rfl rfl); (case c5 => decide); (case kB => exact locs rfl); (case c2 => exact rfl); (case c3 => exact rfl); (case c4 => exact rfl); k_whole; intro g' L' h' FG' F' N' B' X' T'; (try dsimp only); (try k_lift B'); (try k_fold))
  refine (let e9 : Env := _; (?_ : wpAny _ (Around.deeper _ e9) (execs _ e9) _ _ _))
  refine (let B9 : Around := _; (?_ : wpAny _ B9 _ _ _ _))
  (rename Fr _ _ _ _ => lF)
  replace lF := fr_fold [((Str.ofString "value"), .int k tk)] lF (by tb_start)
  obtain ⟨u, lF⟩ := lF
  dsimp only [kstB] at lF
  k_with_none
  k_with "call!" => ((with_reducible show wpAny _ _ (call (Value.ref 272) _) _ _ _); k_dflt (refine' Ctr.use ?kC ?k1 ?k2 ?k3 ?k4 ?k5 ?kK ?kd ?ku ?_); (case k4 => k_asm); (case kC => k_dflt (exact kind_int w _ _ _)); (case k1 => k_asm); (case k2 => k_asm); (case k3 => k_asm); (case k5 => k_asm); (case kK => first | exact rfl | assumption); (case kd => ktr_room); (case ku => ktr_units); intro r9 n9 h9 tk9 F9 N9 p9; (obtain ⟨⟨t8, e8⟩, e9⟩ := p9; subst e8; subst e9); (try dsimp only); (try k_fold))
  k_steps
  all_goals (refine' hret _ _ _ _ ?e1 ?e2 ?e3; (case e1 => k_asm); (case e2 => exact cb_drop (news := news) (by k_asm) (by tb_rel)); (case e3 => exact ⟨rfl, rfl⟩))
theorem num_dec (w : World) (news : List (Addr × Obj)) (v : Value) (x y : Int) (hd : DecAt news v x y) : Ctr w 279 3 [v] news (fun r' n' => Value.bool true = r' ∧ news = n') := by
  unfold Ctr
  k_fill
  k_with_none
  intros; rename_i hret
  refine (let A9 : Around := _; (?_ : wpAny _ A9 _ _ _ _))
  refine wpAny_call ?_
  k_dflt (refine' code_def ?k1 ?k2 ?k3 ?k4 ?k5 ?kA ?kF ?kK ?k6 ?k7 ?k8 ?k9 ?kB ?_ ?c2 ?c3 ?c4 ?c5; (case kA => exact rfl); (case kF => exact rfl); (case kK => first | assumption | exact rfl); (case k1 => k_asm); (case k2 => k_asm); (case k3 => k_asm); (case k4 => k_asm); (case k5 => k_asm); (case k6 => k_is); (case k7 => k_is); (case k8 => ktr_room); (case k9 => first | exact BindsTo.of_eq rfl | exact binds_K (by k_in) rfl (by k_is) rfl rfl rfl); (case c5 => decide); (case kB => exact locs rfl); (case c2 => exact rfl); (case c3 => exact rfl); (case c4 => exact rfl); k_whole; intro g' L' h' FG' F' N' B' X' T'; (try dsimp only); (try k_lift B'); (try k_fold))
  refine (let e9 : Env := _; (?_ : wpAny _ (Around.deeper _ e9) (execs _ e9) _ _ _))
  refine (let B9 : Around := _; (?_ : wpAny _ B9 _ _ _ _))
  (rename Fr _ _ _ _ => lF)
  replace lF := fr_fold [((Str.ofString "value"), v)] lF (by tb_start)
  obtain ⟨u, lF⟩ := lF
  dsimp only [kstB] at lF
  k_with_none
  k_with "call!" => ((with_reducible show wpAny _ _ (call (Value.ref 272) _) _ _ _); k_dflt (refine' Ctr.use ?kC ?k1 ?k2 ?k3 ?k4 ?k5 ?kK ?kd ?ku ?_); (case k4 => k_asm); (case kC => k_dflt (exact kind_dec w _ _ _ _ (hd.sub (by tb_rel)))); (case k1 => k_asm); (case k2 => k_asm); (case k3 => k_asm); (case k5 => k_asm); (case kK => first | exact rfl | assumption); (case kd => ktr_room); (case ku => ktr_units); intro r9 n9 h9 tk9 F9 N9 p9; (obtain ⟨⟨t8, e8⟩, e9⟩ := p9; subst e8; subst e9); (try dsimp only); (try k_fold))
  k_steps
  all_goals (refine' hret _ _ _ _ ?e1 ?e2 ?e3; (case e1 => k_asm); (case e2 => exact cb_drop (news := news) (by k_asm) (by tb_rel)); (case e3 => exact ⟨rfl, rfl⟩))
-- part Dec
theorem dof_dec (w : World) (news : List (Addr × Obj)) (v : Value) (x y : Int) (hd : DecAt news v x y) : Ctr w 173 3 [v] news (fun r' n' => v = r' ∧ news = n') := by
  unfold Ctr
  k_fill
  k_with_none
  intros; rename_i hret
  refine (let A9 : Around := _; (?_ : wpAny _ A9 _ _ _ _))
  refine wpAny_call ?_
  k_dflt (refine' code_def ?k1 ?k2 ?k3 ?k4 ?k5 ?kA ?kF ?kK ?k6 ?k7 ?k8 ?k9 ?kB ?_ ?c2 ?c3 ?c4 ?c5; (case kA => exact rfl); (case kF => exact rfl); (case kK => first | assumption | exact rfl); (case k1 => k_asm); (case k2 => k_asm); (case k3 => k_asm); (case k4 => k_asm); (case k5 => k_asm); (case k6 => k_is); (case k7 => k_is); (case k8 => ktr_room); (case k9 => first | exact BindsTo.of_eq rfl | exact binds_K (by k_in) rfl (by k_is) rfl rfl rfl); (case c5 => decide); (case kB => exact locs rfl); (case c2 => exact rfl); (case c3 => exact rfl); (case c4 => exact rfl); k_whole; intro g' L' h' FG' F' N' B' X' T'; (try dsimp only); (try k_lift B'); (try k_fold))
  refine (let e9 : Env := _; (?_ : wpAny _ (Around.deeper _ e9) (execs _ e9) _ _ _))
  refine (let B9 : Around := _; (?_ : wpAny _ B9 _ _ _ _))
  (rename Fr _ _ _ _ => lF)
  replace lF := fr_fold [((Str.ofString "value"), v)] lF (by tb_start)
  obtain ⟨u, lF⟩ := lF
  dsimp only [kstB] at lF
  k_with_none
  k_with "isi!" => (k_dflt (refine' Knd.isi (b := true) ?k ?N ?X ?e ?_); (case N => k_asm); (case k => k_dflt (exact hd.knd.sub (by tb_rel))); (case X => k_in); (case e => kit_is); k_whole; intro tk')
  k_with "isi!" => (k_dflt (refine' Knd.isi (b := false) ?k ?N ?X ?e ?_); (case N => k_asm); (case k => k_dflt (exact hd.knd.sub (by tb_rel))); (case X => k_in); (case e => kit_is); k_whole; intro tk')
  k_steps
  all_goals (refine' hret _ _ _ _ ?e1 ?e2 ?e3; (case e1 => k_asm); (case e2 => exact cb_drop (news := news) (by k_asm) (by tb_rel)); (case e3 => exact ⟨rfl, rfl⟩))
theorem dof_int (w : World) (news : List (Addr × Obj)) (k : Int) (tk : Tok) : Ctr w 173 4 [.int k tk] news (fun r' n' => ∃ pre, pre ++ news = n' ∧ DecAt pre r' k 0 ∧ Apart pre news) := by
  unfold Ctr
  k_fill
  k_with_none
  intros; rename_i hret
  refine (let A9 : Around := _; (?_ : wpAny _ A9 _ _ _ _))
  refine wpAny_call ?_
  k_dflt (refine' code_def ?k1 ?k2 ?k3 ?k4 ?k5 ?kA ?kF ?kK ?k6 ?k7 ?k8 ?k9 ?kB ?_ ?c2 ?c3 ?c4 ?c5; (case kA => exact rfl); (case kF => exact rfl); (case kK => first | assumption | exact rfl); (case k1 => k_asm); (case k2 => k_asm); (case k3 => k_asm); (case k4 => k_asm); (case k5 => k_asm); (case k6 => k_is); (case k7 => k_is); (case k8 => ktr_room); (case k9 => first | exact BindsTo.of_eq rfl | exact binds_K (by k_in) rfl (by k_is) rfl rfl rfl); (case c5 => decide); (case kB => exact locs rfl); (case c2 => exact rfl); (case c3 => exact rfl); (case c4 => exact rfl); k_whole; intro g' L' h' FG' F' N' B' X' T'; (try dsimp only); (try k_lift B'); (try k_fold))
  refine (let e9 : Env := _; (?_ : wpAny _ (Around.deeper _ e9) (execs _ e9) _ _ _))
  refine (let B9 : Around := _; (?_ : wpAny _ B9 _ _ _ _))
  (rename Fr _ _ _ _ => lF)
  replace lF := fr_fold [((Str.ofString "value"), .int k tk)] lF (by tb_start)
  obtain ⟨u, lF⟩ := lF
  dsimp only [kstB] at lF
  k_with_none
  k_with "call!" => ((with_reducible show wpAny _ _ (call (Value.ref 155) _) _ _ _); k_dflt (refine' Ctr.use ?kC ?k1 ?k2 ?k3 ?k4 ?k5 ?kK ?kd ?ku ?_); (case k4 => k_asm); (case kC => k_dflt (exact dec0_mk w _ _ _ _)); (case k1 => k_asm); (case k2 => k_asm); (case k3 => k_asm); (case k5 => k_asm); (case kK => first | exact rfl | assumption); (case kd => ktr_room); (case ku => ktr_units); intro r9 n9 h9 tk9 F9 N9 p9; (obtain ⟨pre9, e8, hn9, ha9⟩ := p9; subst e8); (try dsimp only); (try k_fold))
  k_steps
  all_goals (refine' hret _ _ _ _ ?e1 ?e2 ?e3; (case e1 => k_asm); (case e2 => k_asm); (case e3 => exact ⟨_, rfl, hn9, ha9⟩))
theorem whole_ok (w : World) (news : List (Addr × Obj)) (v : Value) (x y : Int) (hd : DecAt news v x y) : Ctr w 117 1 [v] news (fun r' n' => Value.bool (decide (y = 0)) = r' ∧ news = n') := by
  unfold Ctr
  k_fill
  k_with_none
  have hd' := hd
  obtain ⟨a, da, h1, k1, t1, h2, k2, t2, c, ev, m1, m2⟩ := hd'
  subst ev
  intros; rename_i hret
  refine (let A9 : Around := _; (?_ : wpAny _ A9 _ _ _ _))
  refine wpAny_call ?_
  k_dflt (refine' code_def ?k1 ?k2 ?k3 ?k4 ?k5 ?kA ?kF ?kK ?k6 ?k7 ?k8 ?k9 ?kB ?_ ?c2 ?c3 ?c4 ?c5; (case kA => exact rfl); (case kF => exact rfl); (case kK => first | assumption | exact rfl); (case k1 => k_asm); (case k2 => k_asm); (case k3 => k_asm); (case k4 => k_asm); (case k5 => k_asm); (case k6 => k_is); (case k7 => k_is); (case k8 => ktr_room); (case k9 => first | exact BindsTo.of_eq rfl | exact binds_K (by k_in) rfl (by k_is) rfl rfl rfl); (case c5 => decide); (case kB => exact locs rfl); (case c2 => exact rfl); (case c3 => exact rfl); (case c4 => exact rfl); k_whole; intro g' L' h' FG' F' N' B' X' T'; (try dsimp only); (try k_lift B'); (try k_fold))
  refine (let e9 : Env := _; (?_ : wpAny _ (Around.deeper _ e9) (execs _ e9) _ _ _))
  refine (let B9 : Around := _; (?_ : wpAny _ B9 _ _ _ _))
  (rename Fr _ _ _ _ => lF)
  replace lF := fr_fold [((Str.ofString "self"), .ref a)] lF (by tb_start)
  obtain ⟨u, lF⟩ := lF
  dsimp only [kstB] at lF
  k_with_none
  k_steps
  all_goals (refine' hret _ _ _ _ ?e1 ?e2 ?e3; (case e1 => k_asm); (case e2 => exact cb_drop (news := news) (by k_asm) (by tb_rel)); (case e3 => exact ⟨rfl, rfl⟩))
theorem floor_ok (w : World) (news : List (Addr × Obj)) (v : Value) (x : Int) (hd : DecAt news v x 0) : Ctr w 124 1 [v] news (fun r' n' => (∃ t, Value.int x t = r') ∧ news = n') := by
  unfold Ctr
  k_fill
  k_with_none
  have hd' := hd
  obtain ⟨a, da, h1, k1, t1, h2, k2, t2, c, ev, m1, m2⟩ := hd'
  subst ev
  intros; rename_i hret
  refine (let A9 : Around := _; (?_ : wpAny _ A9 _ _ _ _))
  refine wpAny_call ?_
  k_dflt (refine' code_def ?k1 ?k2 ?k3 ?k4 ?k5 ?kA ?kF ?kK ?k6 ?k7 ?k8 ?k9 ?kB ?_ ?c2 ?c3 ?c4 ?c5; (case kA => exact rfl); (case kF => exact rfl); (case kK => first | assumption | exact rfl); (case k1 => k_asm); (case k2 => k_asm); (case k3 => k_asm); (case k4 => k_asm); (case k5 => k_asm); (case k6 => k_is); (case k7 => k_is); (case k8 => ktr_room); (case k9 => first | exact BindsTo.of_eq rfl | exact binds_K (by k_in) rfl (by k_is) rfl rfl rfl); (case c5 => decide); (case kB => exact locs rfl); (case c2 => exact rfl); (case c3 => exact rfl); (case c4 => exact rfl); k_whole; intro g' L' h' FG' F' N' B' X' T'; (try dsimp only); (try k_lift B'); (try k_fold))
  refine (let e9 : Env := _; (?_ : wpAny _ (Around.deeper _ e9) (execs _ e9) _ _ _))
  refine (let B9 : Around := _; (?_ : wpAny _ B9 _ _ _ _))
  (rename Fr _ _ _ _ => lF)
  replace lF := fr_fold [((Str.ofString "self"), .ref a)] lF (by tb_start)
  obtain ⟨u, lF⟩ := lF
  dsimp only [kstB] at lF
  k_with_none
  k_steps
  all_goals (refine' hret _ _ _ _ ?e1 ?e2 ?e3; (case e1 => k_asm); (case e2 => exact cb_drop (news := news) (by k_asm) (by tb_rel)); (case e3 => exact ⟨⟨_, by rw [show ((10 : Int) ^ (Int.toNat 0)) = 1 from rfl, Int.fdiv_one]⟩, rfl⟩))
-- part Tell
theorem kind_name (w : World) (news : List (Addr × Obj)) (v : Value) (x : Str) (hd : NameAt news v x) : Ctr w 272 2 [v] news (fun r' n' => (∃ t, Value.str (Str.ofString "name") t = r') ∧ news = n') := by
  unfold Ctr
  k_fill
  k_with_none
  have hd' := hd
  obtain ⟨a, da, h1, k1, t1, c, ev, m1, m2⟩ := hd'
  subst ev
  intros; rename_i hret
  refine (let A9 : Around := _; (?_ : wpAny _ A9 _ _ _ _))
  refine wpAny_call ?_
  k_dflt (refine' code_def ?k1 ?k2 ?k3 ?k4 ?k5 ?kA ?kF ?kK ?k6 ?k7 ?k8 ?k9 ?kB ?_ ?c2 ?c3 ?c4 ?c5; (case kA => exact rfl); (case kF => exact rfl); (case kK => first | assumption | exact rfl); (case k1 => k_asm); (case k2 => k_asm); (case k3 => k_asm); (case k4 => k_asm); (case k5 => k_asm); (case k6 => k_is); (case k7 => k_is); (case k8 => ktr_room); (case k9 => first | exact BindsTo.of_eq rfl | exact binds_K (by k_in) rfl (by k_is) rfl rfl rfl); (case c5 => decide); (case kB => exact locs rfl); (case c2 => exact rfl); (case c3 => exact rfl); (case c4 => exact rfl); k_whole; intro g' L' h' FG' F' N' B' X' T'; (try dsimp only); (try k_lift B'); (try k_fold))
  refine (let e9 : Env := _; (?_ : wpAny _ (Around.deeper _ e9) (execs _ e9) _ _ _))
  refine (let B9 : Around := _; (?_ : wpAny _ B9 _ _ _ _))
  (rename Fr _ _ _ _ => lF)
  replace lF := fr_fold [((Str.ofString "value"), .ref a)] lF (by tb_start)
  obtain ⟨u, lF⟩ := lF
  dsimp only [kstB] at lF
  k_with_none
  k_with "isi!" => (k_dflt (refine' Knd.isi (b := true) ?k ?N ?X ?e ?_); (case N => k_asm); (case k => k_dflt (exact hd.knd.sub (by tb_rel))); (case X => k_in); (case e => kit_is); k_whole; intro tk')
  k_with "isi!" => (k_dflt (refine' Knd.isi (b := false) ?k ?N ?X ?e ?_); (case N => k_asm); (case k => k_dflt (exact hd.knd.sub (by tb_rel))); (case X => k_in); (case e => kit_is); k_whole; intro tk')
  k_steps
  all_goals (refine' hret _ _ _ _ ?e1 ?e2 ?e3; (case e1 => k_asm); (case e2 => k_asm); (case e3 => exact ⟨⟨_, rfl⟩, rfl⟩))
theorem kind_str (w : World) (news : List (Addr × Obj)) (v : Value) (x : Array UInt8) (hd : StringAt news v x) : Ctr w 272 2 [v] news (fun r' n' => (∃ t, Value.str (Str.ofString "string") t = r') ∧ news = n') := by
  unfold Ctr
  k_fill
  k_with_none
  have hd' := hd
  obtain ⟨a, da, h1, k1, t1, h2, k2, c, ev, m1, m2⟩ := hd'
  subst ev
  intros; rename_i hret
  refine (let A9 : Around := _; (?_ : wpAny _ A9 _ _ _ _))
  refine wpAny_call ?_
  k_dflt (refine' code_def ?k1 ?k2 ?k3 ?k4 ?k5 ?kA ?kF ?kK ?k6 ?k7 ?k8 ?k9 ?kB ?_ ?c2 ?c3 ?c4 ?c5; (case kA => exact rfl); (case kF => exact rfl); (case kK => first | assumption | exact rfl); (case k1 => k_asm); (case k2 => k_asm); (case k3 => k_asm); (case k4 => k_asm); (case k5 => k_asm); (case k6 => k_is); (case k7 => k_is); (case k8 => ktr_room); (case k9 => first | exact BindsTo.of_eq rfl | exact binds_K (by k_in) rfl (by k_is) rfl rfl rfl); (case c5 => decide); (case kB => exact locs rfl); (case c2 => exact rfl); (case c3 => exact rfl); (case c4 => exact rfl); k_whole; intro g' L' h' FG' F' N' B' X' T'; (try dsimp only); (try k_lift B'); (try k_fold))
  refine (let e9 : Env := _; (?_ : wpAny _ (Around.deeper _ e9) (execs _ e9) _ _ _))
  refine (let B9 : Around := _; (?_ : wpAny _ B9 _ _ _ _))
  (rename Fr _ _ _ _ => lF)
  replace lF := fr_fold [((Str.ofString "value"), .ref a)] lF (by tb_start)
  obtain ⟨u, lF⟩ := lF
  dsimp only [kstB] at lF
  k_with_none
  k_with "isi!" => (k_dflt (refine' Knd.isi (b := true) ?k ?N ?X ?e ?_); (case N => k_asm); (case k => k_dflt (exact hd.knd.sub (by tb_rel))); (case X => k_in); (case e => kit_is); k_whole; intro tk')
  k_with "isi!" => (k_dflt (refine' Knd.isi (b := false) ?k ?N ?X ?e ?_); (case N => k_asm); (case k => k_dflt (exact hd.knd.sub (by tb_rel))); (case X => k_in); (case e => kit_is); k_whole; intro tk')
  k_steps
  all_goals (refine' hret _ _ _ _ ?e1 ?e2 ?e3; (case e1 => k_asm); (case e2 => k_asm); (case e3 => exact ⟨⟨_, rfl⟩, rfl⟩))
theorem plain_int (w : World) (news : List (Addr × Obj)) (tk9 : Tok) (k : Int) (tk : Tok) : Ctr w 286 2 [.str (Str.ofString "int") tk9, .int k tk] news (fun r' n' => ∃ pre, pre ++ news = n' ∧ DatIn pre r' (.tuple [.str (Str.ofString "int"), .int k]) ∧ Apart pre news) := by
  unfold Ctr
  k_fill
  k_with_none
  intros; rename_i hret
  refine (let A9 : Around := _; (?_ : wpAny _ A9 _ _ _ _))
  refine wpAny_call ?_
  k_dflt (refine' code_def ?k1 ?k2 ?k3 ?k4 ?k5 ?kA ?kF ?kK ?k6 ?k7 ?k8 ?k9 ?kB ?_ ?c2 ?c3 ?c4 ?c5; (case kA => exact rfl); (case kF => exact rfl); (case kK => first | assumption | exact rfl); (case k1 => k_asm); (case k2 => k_asm); (case k3 => k_asm); (case k4 => k_asm); (case k5 => k_asm); (case k6 => k_is); (case k7 => k_is); (case k8 => ktr_room); (case k9 => first | exact BindsTo.of_eq rfl | exact binds_K (by k_in) rfl (by k_is) rfl rfl rfl); (case c5 => decide); (case kB => exact locs rfl); (case c2 => exact rfl); (case c3 => exact rfl); (case c4 => exact rfl); k_whole; intro g' L' h' FG' F' N' B' X' T'; (try dsimp only); (try k_lift B'); (try k_fold))
  refine (let e9 : Env := _; (?_ : wpAny _ (Around.deeper _ e9) (execs _ e9) _ _ _))
  refine (let B9 : Around := _; (?_ : wpAny _ B9 _ _ _ _))
  (rename Fr _ _ _ _ => lF)
  replace lF := fr_fold [((Str.ofString "kind"), .str (Str.ofString "int") tk9), ((Str.ofString "value"), .int k tk)] lF (by tb_start)
  obtain ⟨u, lF⟩ := lF
  dsimp only [kstB] at lF
  k_with_none
  k_steps
  rename (∀ p ∈ news, p.1 < _) => l1
  (refine' hret _ _ _ _ ?e1 ?e2 ?e3; (case e1 => k_asm); (case e2 => k_asm); (case e3 => exact ⟨[_], rfl, .tuple (List.Mem.head _) (.cons (.str _ _) (.cons (.int _ _) .nil)), Apart.cons (fun q hq => Nat.ne_of_lt (l1 q hq)) Apart.nil⟩))
theorem plain_dec (w : World) (news : List (Addr × Obj)) (tk9 : Tok) (v : Value) (x y : Int) (hd : DecAt news v x y) : Ctr w 286 2 [.str (Str.ofString "real") tk9, v] news (fun r' n' => ∃ pre, pre ++ news = n' ∧ DatIn pre r' (.tuple [.str (Str.ofString "real"), .int x, .int y]) ∧ Apart pre news) := by
  unfold Ctr
  k_fill
  k_with_none
  have hd' := hd
  obtain ⟨a, da, h1, k1, t1, h2, k2, t2, c, ev, m1, m2⟩ := hd'
  subst ev
  intros; rename_i hret
  refine (let A9 : Around := _; (?_ : wpAny _ A9 _ _ _ _))
  refine wpAny_call ?_
  k_dflt (refine' code_def ?k1 ?k2 ?k3 ?k4 ?k5 ?kA ?kF ?kK ?k6 ?k7 ?k8 ?k9 ?kB ?_ ?c2 ?c3 ?c4 ?c5; (case kA => exact rfl); (case kF => exact rfl); (case kK => first | assumption | exact rfl); (case k1 => k_asm); (case k2 => k_asm); (case k3 => k_asm); (case k4 => k_asm); (case k5 => k_asm); (case k6 => k_is); (case k7 => k_is); (case k8 => ktr_room); (case k9 => first | exact BindsTo.of_eq rfl | exact binds_K (by k_in) rfl (by k_is) rfl rfl rfl); (case c5 => decide); (case kB => exact locs rfl); (case c2 => exact rfl); (case c3 => exact rfl); (case c4 => exact rfl); k_whole; intro g' L' h' FG' F' N' B' X' T'; (try dsimp only); (try k_lift B'); (try k_fold))
  refine (let e9 : Env := _; (?_ : wpAny _ (Around.deeper _ e9) (execs _ e9) _ _ _))
  refine (let B9 : Around := _; (?_ : wpAny _ B9 _ _ _ _))
  (rename Fr _ _ _ _ => lF)
  replace lF := fr_fold [((Str.ofString "kind"), .str (Str.ofString "real") tk9), ((Str.ofString "value"), .ref a)] lF (by tb_start)
  obtain ⟨u, lF⟩ := lF
  dsimp only [kstB] at lF
  k_with_none
  k_steps
  rename (∀ p ∈ news, p.1 < _) => l1
  (refine' hret _ _ _ _ ?e1 ?e2 ?e3; (case e1 => k_asm); (case e2 => k_asm); (case e3 => exact ⟨[_], rfl, .tuple (List.Mem.head _) (.cons (.str _ _) (.cons (.int _ _) (.cons (.int _ _) .nil))), Apart.cons (fun q hq => Nat.ne_of_lt (l1 q hq)) Apart.nil⟩))
theorem plain_name (w : World) (news : List (Addr × Obj)) (tk9 : Tok) (v : Value) (x : Str) (hd : NameAt news v x) : Ctr w 286 2 [.str (Str.ofString "name") tk9, v] news (fun r' n' => ∃ pre, pre ++ news = n' ∧ DatIn pre r' (.tuple [.str (Str.ofString "name"), .str x]) ∧ Apart pre news) := by
  unfold Ctr
  k_fill
  k_with_none
  have hd' := hd
  obtain ⟨a, da, h1, k1, t1, c, ev, m1, m2⟩ := hd'
  subst ev
  intros; rename_i hret
  refine (let A9 : Around := _; (?_ : wpAny _ A9 _ _ _ _))
  refine wpAny_call ?_
  k_dflt (refine' code_def ?k1 ?k2 ?k3 ?k4 ?k5 ?kA ?kF ?kK ?k6 ?k7 ?k8 ?k9 ?kB ?_ ?c2 ?c3 ?c4 ?c5; (case kA => exact rfl); (case kF => exact rfl); (case kK => first | assumption | exact rfl); (case k1 => k_asm); (case k2 => k_asm); (case k3 => k_asm); (case k4 => k_asm); (case k5 => k_asm); (case k6 => k_is); (case k7 => k_is); (case k8 => ktr_room); (case k9 => first | exact BindsTo.of_eq rfl | exact binds_K (by k_in) rfl (by k_is) rfl rfl rfl); (case c5 => decide); (case kB => exact locs rfl); (case c2 => exact rfl); (case c3 => exact rfl); (case c4 => exact rfl); k_whole; intro g' L' h' FG' F' N' B' X' T'; (try dsimp only); (try k_lift B'); (try k_fold))
  refine (let e9 : Env := _; (?_ : wpAny _ (Around.deeper _ e9) (execs _ e9) _ _ _))
  refine (let B9 : Around := _; (?_ : wpAny _ B9 _ _ _ _))
  (rename Fr _ _ _ _ => lF)
  replace lF := fr_fold [((Str.ofString "kind"), .str (Str.ofString "name") tk9), ((Str.ofString "value"), .ref a)] lF (by tb_start)
  obtain ⟨u, lF⟩ := lF
  dsimp only [kstB] at lF
  k_with_none
  k_steps
  rename (∀ p ∈ news, p.1 < _) => l1
  (refine' hret _ _ _ _ ?e1 ?e2 ?e3; (case e1 => k_asm); (case e2 => k_asm); (case e3 => exact ⟨[_], rfl, .tuple (List.Mem.head _) (.cons (.str _ _) (.cons (.str _ _) .nil)), Apart.cons (fun q hq => Nat.ne_of_lt (l1 q hq)) Apart.nil⟩))
theorem plain_str (w : World) (news : List (Addr × Obj)) (tk9 : Tok) (v : Value) (x : Array UInt8) (hd : StringAt news v x) : Ctr w 286 2 [.str (Str.ofString "string") tk9, v] news (fun r' n' => ∃ pre, pre ++ news = n' ∧ DatIn pre r' (.tuple [.str (Str.ofString "string"), .bytes x]) ∧ Apart pre news) := by
  unfold Ctr
  k_fill
  k_with_none
  have hd' := hd
  obtain ⟨a, da, h1, k1, t1, h2, k2, c, ev, m1, m2⟩ := hd'
  subst ev
  intros; rename_i hret
  refine (let A9 : Around := _; (?_ : wpAny _ A9 _ _ _ _))
  refine wpAny_call ?_
  k_dflt (refine' code_def ?k1 ?k2 ?k3 ?k4 ?k5 ?kA ?kF ?kK ?k6 ?k7 ?k8 ?k9 ?kB ?_ ?c2 ?c3 ?c4 ?c5; (case kA => exact rfl); (case kF => exact rfl); (case kK => first | assumption | exact rfl); (case k1 => k_asm); (case k2 => k_asm); (case k3 => k_asm); (case k4 => k_asm); (case k5 => k_asm); (case k6 => k_is); (case k7 => k_is); (case k8 => ktr_room); (case k9 => first | exact BindsTo.of_eq rfl | exact binds_K (by k_in) rfl (by k_is) rfl rfl rfl); (case c5 => decide); (case kB => exact locs rfl); (case c2 => exact rfl); (case c3 => exact rfl); (case c4 => exact rfl); k_whole; intro g' L' h' FG' F' N' B' X' T'; (try dsimp only); (try k_lift B'); (try k_fold))
  refine (let e9 : Env := _; (?_ : wpAny _ (Around.deeper _ e9) (execs _ e9) _ _ _))
  refine (let B9 : Around := _; (?_ : wpAny _ B9 _ _ _ _))
  (rename Fr _ _ _ _ => lF)
  replace lF := fr_fold [((Str.ofString "kind"), .str (Str.ofString "string") tk9), ((Str.ofString "value"), .ref a)] lF (by tb_start)
  obtain ⟨u, lF⟩ := lF
  dsimp only [kstB] at lF
  k_with_none
  k_with "call type:bytes" => (k_dflt (refine' bytes_self ?_))
  k_steps
  rename (∀ p ∈ news, p.1 < _) => l1
  (refine' hret _ _ _ _ ?e1 ?e2 ?e3; (case e1 => k_asm); (case e2 => k_asm); (case e3 => exact ⟨[_], rfl, .tuple (List.Mem.head _) (.cons (.str _ _) (.cons (.bytes _ _) .nil)), Apart.cons (fun q hq => Nat.ne_of_lt (l1 q hq)) Apart.nil⟩))
theorem told_int (w : World) (news : List (Addr × Obj)) (k : Int) (tk : Tok) : Ctr w 291 3 [.int k tk] news (fun r' n' => ∃ pre, pre ++ news = n' ∧ DatIn pre r' (.tuple [.str (Str.ofString "int"), .int k]) ∧ Apart pre news) := by
  unfold Ctr
  k_fill
  k_with_none
  intros; rename_i hret
  refine (let A9 : Around := _; (?_ : wpAny _ A9 _ _ _ _))
  refine wpAny_call ?_
  k_dflt (refine' code_defC ?k1 ?k2 ?k3 ?k4 ?k5 ?kA ?kF ?kK ?k6 ?k7 ?k8 ?k9 ?kB ?kD ?_ ?c2 ?c3 ?c4; (case kA => exact rfl); (case kF => exact rfl); (case kK => first | assumption | exact rfl); (case k1 => k_asm); (case k2 => k_asm); (case k3 => k_asm); (case k4 => k_asm); (case k5 => k_asm); (case k6 => k_is); (case k7 => k_is); (case k8 => ktr_room); (case k9 => first | exact BindsTo.of_eq rfl | exact binds_K (by k_in) rfl (by k_is) rfl rfl rfl); (case kB => exact rfl); (case kD => decide +kernel); (case c2 => exact rfl); (case c3 => exact rfl); (case c4 => exact rfl); k_whole; intro g' L' h' tk' cells' FG' F' N' Y' B' X' T' l1; k_cells Y'; (try simp only [List.cons_append, List.nil_append] at N'); (try dsimp only); (try k_lift B'); (try k_fold))
  refine (let e9 : Env := _; (?_ : wpAny _ (Around.deeper _ e9) (execs _ e9) _ _ _))
  refine (let B9 : Around := _; (?_ : wpAny _ B9 _ _ _ _))
  (rename Fr _ _ _ _ => lF)
  replace lF := fr_fold [] lF (by tb_start)
  obtain ⟨u, lF⟩ := lF
  dsimp only [kstB] at lF
  k_with_none
  k_with "call!" => ((with_reducible show wpAny _ _ (call (Value.ref 272) _) _ _ _); k_dflt (refine' Ctr.use ?kC ?k1 ?k2 ?k3 ?k4 ?k5 ?kK ?kd ?ku ?_); (case k4 => k_asm); (case kC => k_dflt (exact kind_int w _ _ _)); (case k1 => k_asm); (case k2 => k_asm); (case k3 => k_asm); (case k5 => k_asm); (case kK => first | exact rfl | assumption); (case kd => ktr_room); (case ku => ktr_units); intro r9 n9 h9 tk9 F9 N9 p9; (obtain ⟨⟨t8, e8⟩, e9⟩ := p9; subst e8; subst e9); (try dsimp only); (try k_fold))
  k_with "call!" => ((with_reducible show wpAny _ _ (call (Value.ref 286) _) _ _ _); k_dflt (refine' Ctr.use ?kC ?k1 ?k2 ?k3 ?k4 ?k5 ?kK ?kd ?ku ?_); (case k4 => k_asm); (case kC => k_dflt (exact plain_int w _ _ _ _)); (case k1 => k_asm); (case k2 => k_asm); (case k3 => k_asm); (case k5 => k_asm); (case kK => first | exact rfl | assumption); (case kd => ktr_room); (case ku => ktr_units); intro r9 n9 h9 tk9 F9 N9 p9; (obtain ⟨pre9, e8, hd9, ha9⟩ := p9; subst e8); (try dsimp only); (try k_fold))
  k_steps
  (refine' hret _ _ _ _ ?e1 ?e2 ?e3; (case e1 => k_asm); (case e2 => exact cb_drop (news := pre9 ++ news) (by k_asm) (by tb_rel)); (case e3 => exact ⟨_, rfl, hd9, ha9.mono (by tb_rel)⟩))
theorem told_dec (w : World) (news : List (Addr × Obj)) (v : Value) (x y : Int) (hd : DecAt news v x y) : Ctr w 291 3 [v] news (fun r' n' => ∃ pre, pre ++ news = n' ∧ DatIn pre r' (.tuple [.str (Str.ofString "real"), .int x, .int y]) ∧ Apart pre news) := by
  unfold Ctr
  k_fill
  k_with_none
  intros; rename_i hret
  refine (let A9 : Around := _; (?_ : wpAny _ A9 _ _ _ _))
  refine wpAny_call ?_
  k_dflt (refine' code_defC ?k1 ?k2 ?k3 ?k4 ?k5 ?kA ?kF ?kK ?k6 ?k7 ?k8 ?k9 ?kB ?kD ?_ ?c2 ?c3 ?c4; (case kA => exact rfl); (case kF => exact rfl); (case kK => first | assumption | exact rfl); (case k1 => k_asm); (case k2 => k_asm); (case k3 => k_asm); (case k4 => k_asm); (case k5 => k_asm); (case k6 => k_is); (case k7 => k_is); (case k8 => ktr_room); (case k9 => first | exact BindsTo.of_eq rfl | exact binds_K (by k_in) rfl (by k_is) rfl rfl rfl); (case kB => exact rfl); (case kD => decide +kernel); (case c2 => exact rfl); (case c3 => exact rfl); (case c4 => exact rfl); k_whole; intro g' L' h' tk' cells' FG' F' N' Y' B' X' T' l1; k_cells Y'; (try simp only [List.cons_append, List.nil_append] at N'); (try dsimp only); (try k_lift B'); (try k_fold))
  refine (let e9 : Env := _; (?_ : wpAny _ (Around.deeper _ e9) (execs _ e9) _ _ _))
  refine (let B9 : Around := _; (?_ : wpAny _ B9 _ _ _ _))
  (rename Fr _ _ _ _ => lF)
  replace lF := fr_fold [] lF (by tb_start)
  obtain ⟨u, lF⟩ := lF
  dsimp only [kstB] at lF
  k_with_none
  k_with "call!" => ((with_reducible show wpAny _ _ (call (Value.ref 272) _) _ _ _); k_dflt (refine' Ctr.use ?kC ?k1 ?k2 ?k3 ?k4 ?k5 ?kK ?kd ?ku ?_); (case k4 => k_asm); (case kC => k_dflt (exact kind_dec w _ _ _ _ (hd.sub (by tb_rel)))); (case k1 => k_asm); (case k2 => k_asm); (case k3 => k_asm); (case k5 => k_asm); (case kK => first | exact rfl | assumption); (case kd => ktr_room); (case ku => ktr_units); intro r9 n9 h9 tk9 F9 N9 p9; (obtain ⟨⟨t8, e8⟩, e9⟩ := p9; subst e8; subst e9); (try dsimp only); (try k_fold))
  k_with "call!" => ((with_reducible show wpAny _ _ (call (Value.ref 286) _) _ _ _); k_dflt (refine' Ctr.use ?kC ?k1 ?k2 ?k3 ?k4 ?k5 ?kK ?kd ?ku ?_); (case k4 => k_asm); (case kC => k_dflt (exact plain_dec w _ _ _ _ _ (hd.sub (by tb_rel)))); (case k1 => k_asm); (case k2 => k_asm); (case k3 => k_asm); (case k5 => k_asm); (case kK => first | exact rfl | assumption); (case kd => ktr_room); (case ku => ktr_units); intro r9 n9 h9 tk9 F9 N9 p9; (obtain ⟨pre9, e8, hd9, ha9⟩ := p9; subst e8); (try dsimp only); (try k_fold))
  k_steps
  (refine' hret _ _ _ _ ?e1 ?e2 ?e3; (case e1 => k_asm); (case e2 => exact cb_drop (news := pre9 ++ news) (by k_asm) (by tb_rel)); (case e3 => exact ⟨_, rfl, hd9, ha9.mono (by tb_rel)⟩))
theorem told_name (w : World) (news : List (Addr × Obj)) (v : Value) (x : Str) (hd : NameAt news v x) : Ctr w 291 3 [v] news (fun r' n' => ∃ pre, pre ++ news = n' ∧ DatIn pre r' (.tuple [.str (Str.ofString "name"), .str x]) ∧ Apart pre news) := by
  unfold Ctr
  k_fill
  k_with_none
  intros; rename_i hret
  refine (let A9 : Around := _; (?_ : wpAny _ A9 _ _ _ _))
  refine wpAny_call ?_
  k_dflt (refine' code_defC ?k1 ?k2 ?k3 ?k4 ?k5 ?kA ?kF ?kK ?k6 ?k7 ?k8 ?k9 ?kB ?kD ?_ ?c2 ?c3 ?c4; (case kA => exact rfl); (case kF => exact rfl); (case kK => first | assumption | exact rfl); (case k1 => k_asm); (case k2 => k_asm); (case k3 => k_asm); (case k4 => k_asm); (case k5 => k_asm); (case k6 => k_is); (case k7 => k_is); (case k8 => ktr_room); (case k9 => first | exact BindsTo.of_eq rfl | exact binds_K (by k_in) rfl (by k_is) rfl rfl rfl); (case kB => exact rfl); (case kD => decide +kernel); (case c2 => exact rfl); (case c3 => exact rfl); (case c4 => exact rfl); k_whole; intro g' L' h' tk' cells' FG' F' N' Y' B' X' T' l1; k_cells Y'; (try simp only [List.cons_append, List.nil_append] at N'); (try dsimp only); (try k_lift B'); (try k_fold))
  refine (let e9 : Env := _; (?_ : wpAny _ (Around.deeper _ e9) (execs _ e9) _ _ _))
  refine (let B9 : Around := _; (?_ : wpAny _ B9 _ _ _ _))
  (rename Fr _ _ _ _ => lF)
  replace lF := fr_fold [] lF (by tb_start)
  obtain ⟨u, lF⟩ := lF
  dsimp only [kstB] at lF
  k_with_none
  k_with "call!" => ((with_reducible show wpAny _ _ (call (Value.ref 272) _) _ _ _); k_dflt (refine' Ctr.use ?kC ?k1 ?k2 ?k3 ?k4 ?k5 ?kK ?kd ?ku ?_); (case k4 => k_asm); (case kC => k_dflt (exact kind_name w _ _ _ (hd.sub (by tb_rel)))); (case k1 => k_asm); (case k2 => k_asm); (case k3 => k_asm); (case k5 => k_asm); (case kK => first | exact rfl | assumption); (case kd => ktr_room); (case ku => ktr_units); intro r9 n9 h9 tk9 F9 N9 p9; (obtain ⟨⟨t8, e8⟩, e9⟩ := p9; subst e8; subst e9); (try dsimp only); (try k_fold))
  k_with "call!" => ((with_reducible show wpAny _ _ (call (Value.ref 286) _) _ _ _); k_dflt (refine' Ctr.use ?kC ?k1 ?k2 ?k3 ?k4 ?k5 ?kK ?kd ?ku ?_); (case k4 => k_asm); (case kC => k_dflt (exact plain_name w _ _ _ _ (hd.sub (by tb_rel)))); (case k1 => k_asm); (case k2 => k_asm); (case k3 => k_asm); (case k5 => k_asm); (case kK => first | exact rfl | assumption); (case kd => ktr_room); (case ku => ktr_units); intro r9 n9 h9 tk9 F9 N9 p9; (obtain ⟨pre9, e8, hd9, ha9⟩ := p9; subst e8); (try dsimp only); (try k_fold))
  k_steps
  (refine' hret _ _ _ _ ?e1 ?e2 ?e3; (case e1 => k_asm); (case e2 => exact cb_drop (news := pre9 ++ news) (by k_asm) (by tb_rel)); (case e3 => exact ⟨_, rfl, hd9, ha9.mono (by tb_rel)⟩))
theorem told_str (w : World) (news : List (Addr × Obj)) (v : Value) (x : Array UInt8) (hd : StringAt news v x) : Ctr w 291 3 [v] news (fun r' n' => ∃ pre, pre ++ news = n' ∧ DatIn pre r' (.tuple [.str (Str.ofString "string"), .bytes x]) ∧ Apart pre news) := by
  unfold Ctr
  k_fill
  k_with_none
  intros; rename_i hret
  refine (let A9 : Around := _; (?_ : wpAny _ A9 _ _ _ _))
  refine wpAny_call ?_
  k_dflt (refine' code_defC ?k1 ?k2 ?k3 ?k4 ?k5 ?kA ?kF ?kK ?k6 ?k7 ?k8 ?k9 ?kB ?kD ?_ ?c2 ?c3 ?c4; (case kA => exact rfl); (case kF => exact rfl); (case kK => first | assumption | exact rfl); (case k1 => k_asm); (case k2 => k_asm); (case k3 => k_asm); (case k4 => k_asm); (case k5 => k_asm); (case k6 => k_is); (case k7 => k_is); (case k8 => ktr_room); (case k9 => first | exact BindsTo.of_eq rfl | exact binds_K (by k_in) rfl (by k_is) rfl rfl rfl); (case kB => exact rfl); (case kD => decide +kernel); (case c2 => exact rfl); (case c3 => exact rfl); (case c4 => exact rfl); k_whole; intro g' L' h' tk' cells' FG' F' N' Y' B' X' T' l1; k_cells Y'; (try simp only [List.cons_append, List.nil_append] at N'); (try dsimp only); (try k_lift B'); (try k_fold))
  refine (let e9 : Env := _; (?_ : wpAny _ (Around.deeper _ e9) (execs _ e9) _ _ _))
  refine (let B9 : Around := _; (?_ : wpAny _ B9 _ _ _ _))
  (rename Fr _ _ _ _ => lF)
  replace lF := fr_fold [] lF (by tb_start)
  obtain ⟨u, lF⟩ := lF
  dsimp only [kstB] at lF
  k_with_none
  k_with "call!" => ((with_reducible show wpAny _ _ (call (Value.ref 272) _) _ _ _); k_dflt (refine' Ctr.use ?kC ?k1 ?k2 ?k3 ?k4 ?k5 ?kK ?kd ?ku ?_); (case k4 => k_asm); (case kC => k_dflt (exact kind_str w _ _ _ (hd.sub (by tb_rel)))); (case k1 => k_asm); (case k2 => k_asm); (case k3 => k_asm); (case k5 => k_asm); (case kK => first | exact rfl | assumption); (case kd => ktr_room); (case ku => ktr_units); intro r9 n9 h9 tk9 F9 N9 p9; (obtain ⟨⟨t8, e8⟩, e9⟩ := p9; subst e8; subst e9); (try dsimp only); (try k_fold))
  k_with "call!" => ((with_reducible show wpAny _ _ (call (Value.ref 286) _) _ _ _); k_dflt (refine' Ctr.use ?kC ?k1 ?k2 ?k3 ?k4 ?k5 ?kK ?kd ?ku ?_); (case k4 => k_asm); (case kC => k_dflt (exact plain_str w _ _ _ _ (hd.sub (by tb_rel)))); (case k1 => k_asm); (case k2 => k_asm); (case k3 => k_asm); (case k5 => k_asm); (case kK => first | exact rfl | assumption); (case kd => ktr_room); (case ku => ktr_units); intro r9 n9 h9 tk9 F9 N9 p9; (obtain ⟨pre9, e8, hd9, ha9⟩ := p9; subst e8); (try dsimp only); (try k_fold))
  k_steps
  (refine' hret _ _ _ _ ?e1 ?e2 ?e3; (case e1 => k_asm); (case e2 => exact cb_drop (news := pre9 ++ news) (by k_asm) (by tb_rel)); (case e3 => exact ⟨_, rfl, hd9, ha9.mono (by tb_rel)⟩))
end
section
set_option hygiene false in
local macro_rules | `(tactic| walk_at "call type:tuple") => `(tactic| k_extra "call type:tuple")
section
local macro_rules | `(tactic| walk_at "zz41") => `(tactic| skip)
-- part Optold
inductive Opd (news : List (Addr × Obj)) : Value → Dat → Prop
  | int (k : Int) (t : Tok) : Opd news (.int k t) (.tuple [.str (Str.ofString "int"), .int k])
  | dec {v : Value} {x y : Int} : DecAt news v x y → Opd news v (.tuple [.str (Str.ofString "real"), .int x, .int y])
  | name {v : Value} {x : Str} : NameAt news v x → Opd news v (.tuple [.str (Str.ofString "name"), .str x])
  | str {v : Value} {x : Array UInt8} : StringAt news v x → Opd news v (.tuple [.str (Str.ofString "string"), .bytes x])
theorem Opd.sub {l l' : List (Addr × Obj)} (hs : ∀ p ∈ l, p ∈ l') {v : Value} {d : Dat} : Opd l v d → Opd l' v d
  | .int k t => .int k t
  | .dec h => .dec (h.sub hs)
  | .name h => .name (h.sub hs)
  | .str h => .str (h.sub hs)
inductive Opds (news : List (Addr × Obj)) : List Value → List Dat → Prop
  | nil : Opds news [] []
  | cons {v : Value} {d : Dat} {vs : List Value} {ds : List Dat} : Opd news v d → Opds news vs ds → Opds news (v :: vs) (d :: ds)
theorem Opds.length {l : List (Addr × Obj)} {vs : List Value} {ds : List Dat} (h : Opds l vs ds) : vs.length = ds.length := by
  induction h with
  | nil => rfl
  | cons _ _ ih => simp [ih]
theorem Opds.get {l : List (Addr × Obj)} {vs : List Value} {ds : List Dat} (h : Opds l vs ds) : ∀ {i : Nat} {v : Value}, vs[i]? = some v → ∃ d, ds[i]? = some d ∧ Opd l v d := by
  induction h with
  | nil => intro i v e; simp at e
  | cons a _ ih =>
    intro i v e
    cases i with
    | zero => simp at e; subst e; exact ⟨_, rfl, a⟩
    | succ i => simp at e; simpa using ih e
theorem told_opd (w : World) (news : List (Addr × Obj)) (v : Value) (d : Dat) (h : Opd news v d) : Ctr w 291 3 [v] news (fun r' n' => ∃ pre, pre ++ news = n' ∧ DatIn pre r' d ∧ Apart pre news) := by
  cases h with
  | int k t => exact told_int w news k t
  | dec h => exact told_dec w news _ _ _ h
  | name h => exact told_name w news _ _ h
  | str h => exact told_str w news _ _ h
theorem optold_ok (w : World) (news : List (Addr × Obj)) (v : Value) (x : Str) (l : Addr) (vs : List Value) (n : Nat) (ds : List Dat) (ho : OpAt news v x l) (hl : (l, listOf vs.toArray n) ∈ news) (hos : Opds news vs ds) (hlen : vs.length ≤ 2) : Ctr w 398 5 [v] news (fun r' n' => ∃ pre, pre ++ news = n' ∧ DatIn pre r' (.tuple [.str x, .tuple ds]) ∧ Apart pre news) := by
  unfold Ctr
  k_fill
  k_with_none
  have ho' := ho
  obtain ⟨a, da, h1, k1, t1, h2, k2, c, ev, m1, m2⟩ := ho'
  subst ev
  intros; rename_i hret
  refine (let A9 : Around := _; (?_ : wpAny _ A9 _ _ _ _))
  refine wpAny_call ?_
  k_dflt (refine' code_def ?k1 ?k2 ?k3 ?k4 ?k5 ?kA ?kF ?kK ?k6 ?k7 ?k8 ?k9 ?kB ?_ ?c2 ?c3 ?c4 ?c5; (case kA => exact rfl); (case kF => exact rfl); (case kK => first | assumption | exact rfl); (case k1 => k_asm); (case k2 => k_asm); (case k3 => k_asm); (case k4 => k_asm); (case k5 => k_asm); (case k6 => k_is); (case k7 => k_is); (case k8 => ktr_room); (case k9 => first | exact BindsTo.of_eq rfl | exact binds_K (by k_in) rfl (by k_is) rfl rfl rfl); (case c5 => decide); (case kB => exact locs rfl); (case c2 => exact rfl); (case c3 => exact rfl); (case c4 => exact rfl); k_whole; intro g' L' h' FG' F' N' B' X' T'; (try dsimp only); (try k_lift B'); (try k_fold))
  refine (let e9 : Env := _; (?_ : wpAny _ (Around.deeper _ e9) (execs _ e9) _ _ _))
  refine (let B9 : Around := _; (?_ : wpAny _ B9 _ _ _ _))
  (rename Fr _ _ _ _ => lF)
  replace lF := fr_fold [((Str.ofString "self"), .ref a)] lF (by tb_start)
  obtain ⟨u, lF⟩ := lF
  dsimp only [kstB] at lF
  k_with_none
  k_with "call type:tuple" => (k_dflt (refine' tuple_L ?yF ?yN ?ym ?yz ?_; (case yF => k_asm); (case yN => k_asm); (case ym => k_mem); (case yz => omega)); intro ta ht F' N' lta)
  k_steps
  unfold Held
  k_dflt (refine' compU_list (xs := vs) (fun i ys nx => ∃ pre, pre ++ news = nx ∧ DatAll pre ys (ds.take i) ∧ Apart pre news) (by rfl) ?cF ?cN ?cm ?cz ?cj0 ?cturn ?cfin)
  case cF => k_asm
  case cN => k_asm
  case cm => k_mem
  case cz => omega
  case cj0 => exact ⟨[], rfl, .nil, Apart.nil⟩
  case cturn =>
    intro i v ys nx I oI C oC D m₂ h tk E' hv hJ hS hC hx F N o3 n3
    obtain ⟨pre, e1, hda, hab⟩ := hJ
    subst e1
    obtain ⟨d, hdq, hdo⟩ := hos.get hv
    k_with "call!" => ((with_reducible show wpAny _ _ (call (Value.ref 291) _) _ _ _); k_dflt (refine' Ctr.use ?kC ?k1 ?k2 ?k3 ?k4 ?k5 ?kK ?kd ?ku ?_); (case k4 => k_asm); (case kC => k_dflt (exact told_opd w _ _ d (hdo.sub (by tb_rel)))); (case k1 => k_asm); (case k2 => k_asm); (case k3 => k_asm); (case k5 => k_asm); (case kK => first | exact rfl | assumption); (case kd => ktr_room); (case ku => ktr_units); intro rc nc hc tkc Fc Nc pc; (obtain ⟨prec, e8, hdc, hac⟩ := pc; subst e8); (try dsimp only); (try k_fold))
    k_steps
    unfold Held
    k_dflt (refine' end_app ?eF ?eN hac o3 (srcAt_app hS) ?er)
    case eF => k_asm
    case eN => k_asm
    case er => exact ⟨prec ++ pre, List.append_assoc .., (by rw [Mine.take_snoc hdq]; exact (hda.mono (by tb_rel)).append (.one (hdc.mono (by tb_rel)))), Apart.append (hac.mono (by tb_rel)) hab⟩
  case cfin =>
    intro g9 ys nx hJ
    obtain ⟨pre, e1, hda, hab⟩ := hJ
    subst e1
    rw [hos.length, List.take_length] at hda
    have hyl : ys.length ≤ 2 := by rw [hda.length, ← hos.length]; exact hlen
    unfold LCg.FinE
    intro D h tk F N o1
    k_steps
    rename (ta < _ ∧ _) => l1
    (refine' hret _ _ _ _ ?e1 ?e2 ?e3; (case e1 => k_asm); (case e2 => exact cb_drop (news := (_, _) :: (ta, _) :: (pre ++ news)) (by k_asm) (by tb_rel)); (case e3 => exact ⟨(_, _) :: (ta, _) :: pre, rfl, .tuple (List.Mem.head _) (.cons (.str _ _) (.cons (.tuple (List.Mem.tail _ (List.Mem.head _)) (hda.mono (by tb_rel))) .nil)), Apart.cons (fun q hq => Nat.ne_of_lt (allLt_mem l1.2.2 q (List.mem_append_right _ hq))) (Apart.cons (fun q hq => Nat.ne_of_lt (lta q (List.mem_cons_of_mem _ (List.mem_append_right _ hq)))) hab)⟩))
-- part Row0
inductive RK where
  | tj
  | trI (k : Int)
  | trD (a b : Int)
  | q
  | Q
  deriving DecidableEq
def xb : Array UInt8 := #[120]
def trDat (k : Int) : Dat := .tuple [.str (Str.ofString "Tr"), .tuple [.tuple [.str (Str.ofString "int"), .int k]]]
def RK.dat : RK → Dat
  | .tj => .tuple [.str (Str.ofString "Tj"), .tuple [.tuple [.str (Str.ofString "string"), .bytes xb]]]
  | .trI k => trDat k
  | .trD a b => .tuple [.str (Str.ofString "Tr"), .tuple [.tuple [.str (Str.ofString "real"), .int a, .int b]]]
  | .q => .tuple [.str (Str.ofString "q"), .tuple []]
  | .Q => .tuple [.str (Str.ofString "Q"), .tuple []]
def OpK (news : List (Addr × Obj)) (v : Value) : RK → Prop
  | .tj => ∃ l x n, OpAt news v (Str.ofString "Tj") l ∧ (l, listOf [x].toArray n) ∈ news ∧ StringAt news x xb
  | .trI k => ∃ l t n, OpAt news v (Str.ofString "Tr") l ∧ (l, listOf [.int k t].toArray n) ∈ news
  | .trD a b => ∃ l x n, OpAt news v (Str.ofString "Tr") l ∧ (l, listOf [x].toArray n) ∈ news ∧ DecAt news x a b ∧ (b = 0 ∨ b = 1)
  | .q => ∃ l n, OpAt news v (Str.ofString "q") l ∧ (l, listOf (List.toArray []) n) ∈ news
  | .Q => ∃ l n, OpAt news v (Str.ofString "Q") l ∧ (l, listOf (List.toArray []) n) ∈ news
theorem OpK.sub {l l' : List (Addr × Obj)} (hs : ∀ p ∈ l, p ∈ l') {v : Value} : ∀ {o : RK}, OpK l v o → OpK l' v o
  | .tj, ⟨a, x, n, h1, h2, h3⟩ => ⟨a, x, n, h1.sub hs, hs _ h2, h3.sub hs⟩
  | .trI _, ⟨a, x, n, h1, h2⟩ => ⟨a, x, n, h1.sub hs, hs _ h2⟩
  | .trD _ _, ⟨a, x, n, h1, h2, h3, h4⟩ => ⟨a, x, n, h1.sub hs, hs _ h2, h3.sub hs, h4⟩
  | .q, ⟨a, n, h1, h2⟩ => ⟨a, n, h1.sub hs, hs _ h2⟩
  | .Q, ⟨a, n, h1, h2⟩ => ⟨a, n, h1.sub hs, hs _ h2⟩
section
variable {news : List (Addr × Obj)} {v x : Value} {l : Addr} {n : Nat}
theorem OpK.mkI {k : Int} {t : Tok} (a : OpAt news v (Str.ofString "Tr") l) (b : (l, listOf [.int k t].toArray n) ∈ news) : OpK news v (.trI k) := ⟨_, _, _, a, b⟩
theorem OpK.mkD {k m : Int} (a : OpAt news v (Str.ofString "Tr") l) (b : (l, listOf [x].toArray n) ∈ news) (c : DecAt news x k m) (d : m = 0 ∨ m = 1) : OpK news v (.trD k m) := ⟨_, _, _, a, b, c, d⟩
theorem OpK.mkT (a : OpAt news v (Str.ofString "Tj") l) (b : (l, listOf [x].toArray n) ∈ news) (c : StringAt news x xb) : OpK news v .tj := ⟨_, _, _, a, b, c⟩
theorem OpK.mkq (a : OpAt news v (Str.ofString "q") l) (b : (l, listOf (List.toArray []) n) ∈ news) : OpK news v .q := ⟨_, _, a, b⟩
theorem OpK.mkQ (a : OpAt news v (Str.ofString "Q") l) (b : (l, listOf (List.toArray []) n) ∈ news) : OpK news v .Q := ⟨_, _, a, b⟩
end
theorem strs2 {ys : List Value} {a b : Str} (h : StrsAre ys [a, b]) : ∃ t u, ys = [.str a t, .str b u] := by
  cases h with
  | cons x t h =>
    cases h with
    | cons y u h =>
      cases h with
      | nil => exact ⟨_, _, rfl⟩
theorem any37 {k : Int} (h3 : k ≠ 3) (h7 : k ≠ 7) : ([3, 7].any fun x => x == k) = false := by
  have a : ¬ 3 = k := fun e => h3 e.symm
  have b : ¬ 7 = k := fun e => h7 e.symm
  simp [a, b]
def TOp (news : List (Addr × Obj)) (v : Value) (d : Dat) : Prop := ∃ x l vs n ds, OpAt news v x l ∧ (l, listOf (List.toArray vs) n) ∈ news ∧ Opds news vs ds ∧ vs.length ≤ 2 ∧ d = .tuple [.str x, .tuple ds]
theorem Opds.sub {l l' : List (Addr × Obj)} (hs : ∀ p ∈ l, p ∈ l') {vs : List Value} {ds : List Dat} (h : Opds l vs ds) : Opds l' vs ds := by
  induction h with
  | nil => exact .nil
  | cons a _ ih => exact .cons (a.sub hs) ih
theorem TOp.sub {l l' : List (Addr × Obj)} (hs : ∀ p ∈ l, p ∈ l') {v : Value} {d : Dat} : TOp l v d → TOp l' v d :=
  fun ⟨x, a, vs, n, ds, h1, h2, h3, h4, h5⟩ => ⟨x, a, vs, n, ds, h1.sub hs, hs _ h2, h3.sub hs, h4, h5⟩
theorem OpK.told {l : List (Addr × Obj)} {v : Value} : ∀ {o : RK}, OpK l v o → TOp l v o.dat
  | .tj, ⟨_, _, _, h1, h2, h3⟩ => ⟨_, _, _, _, _, h1, h2, .cons (.str h3) .nil, by simp, rfl⟩
  | .trI _, ⟨_, _, _, h1, h2⟩ => ⟨_, _, _, _, _, h1, h2, .cons (.int _ _) .nil, by simp, rfl⟩
  | .trD _ _, ⟨_, _, _, h1, h2, h3, _⟩ => ⟨_, _, _, _, _, h1, h2, .cons (.dec h3) .nil, by simp, rfl⟩
  | .q, ⟨_, _, h1, h2⟩ => ⟨_, _, _, _, _, h1, h2, .nil, by decide, rfl⟩
  | .Q, ⟨_, _, h1, h2⟩ => ⟨_, _, _, _, _, h1, h2, .nil, by decide, rfl⟩
inductive All2 {α : Type} (P : Value → α → Prop) : List Value → List α → Prop
  | nil : All2 P [] []
  | cons {v : Value} {d : α} {vs : List Value} {ds : List α} : P v d → All2 P vs ds → All2 P (v :: vs) (d :: ds)
section
variable {α : Type} {P P' : Value → α → Prop}
theorem All2.mono (h : ∀ {v d}, P v d → P' v d) {vs : List Value} {ds : List α} (a : All2 P vs ds) : All2 P' vs ds := by
  induction a with
  | nil => exact .nil
  | cons x _ ih => exact .cons (h x) ih
theorem All2.append {vs ws : List Value} {ds es : List α} (a : All2 P vs ds) (b : All2 P ws es) : All2 P (vs ++ ws) (ds ++ es) := by
  induction a with
  | nil => exact b
  | cons x _ ih => exact .cons x ih
theorem All2.length {vs : List Value} {ds : List α} (a : All2 P vs ds) : vs.length = ds.length := by
  induction a with
  | nil => rfl
  | cons _ _ ih => simp [ih]
theorem All2.get {vs : List Value} {ds : List α} (a : All2 P vs ds) : ∀ {i : Nat} {v : Value}, vs[i]? = some v → ∃ d, ds[i]? = some d ∧ P v d := by
  induction a with
  | nil => intro i v e; simp at e
  | cons x _ ih =>
    intro i v e
    cases i with
    | zero => simp at e; subst e; exact ⟨_, rfl, x⟩
    | succ i => simp at e; simpa using ih e
end
def modeAfter (o : RK) (k : Int) (st : List Int) : Int × List Int :=
  match o with
  | .tj => (k, st)
  | .trI m => (m, st)
  | .trD a b => (if b = 0 then a else k, st)
  | .q => (k, st ++ [k])
  | .Q => (if st = [] then k else st.getLastD 0, st.dropLast)
def hidden (k : Int) : Bool := k == 3 || k == 7
def otherMode (k : Int) : Int := if k < 4 then 3 else 7
def outK (o : RK) (k : Int) : List Dat := if o = .tj ∧ hidden k = false then [trDat (otherMode k), o.dat, trDat k] else [o.dat]
structure RS where
  k : Int
  st : List Int
  out : List Dat
def RS.next (r : RS) (o : RK) : RS := let s := modeAfter o r.k r.st; ⟨s.1, s.2, r.out ++ outK o s.1⟩
def runOf (ops : List RK) : RS := ops.foldl RS.next ⟨0, [], []⟩
theorem runOf_snoc (ops : List RK) (o : RK) : runOf (ops ++ [o]) = (runOf ops).next o := by unfold runOf; rw [List.foldl_append]; rfl
-- part Vis1
def openDat : Dat := .tuple [.str (Str.ofString "BDC"), .tuple [.tuple [.str (Str.ofString "name"), .str (Str.ofString "OC")], .tuple [.str (Str.ofString "name"), .str (Str.ofString "A")]]]
def closeDat : Dat := .tuple [.str (Str.ofString "EMC"), .tuple []]
def VS (ops : List RK) (i : Nat) : List Value × Int × List Int × List Dat :=
  if i = 0 then ([], 0, [], [])
  else if i ≤ ops.length + 1 then ([.bool false], (runOf (ops.take (i - 1))).k, (runOf (ops.take (i - 1))).st, openDat :: (runOf (ops.take (i - 1))).out)
  else ([], (runOf ops).k, (runOf ops).st, openDat :: (runOf ops).out ++ [closeDat])
theorem VS_0 (ops : List RK) : VS ops 0 = ([], 0, [], []) := rfl
theorem VS_1 (ops : List RK) : VS ops 1 = ([.bool false], 0, [], [openDat]) := by
  unfold VS
  rw [if_neg (by omega), if_pos (by omega)]
  rfl
theorem VS_1' (ops : List RK) : VS ops (0 + 1) = ([.bool false], 0, [], [openDat]) := VS_1 ops
theorem VS_mid {ops : List RK} {i : Nat} (h : i ≤ ops.length) : VS ops (i + 1) = ([.bool false], (runOf (ops.take i)).k, (runOf (ops.take i)).st, openDat :: (runOf (ops.take i)).out) := by
  unfold VS
  rw [if_neg (by omega), if_pos (by omega)]
  rfl
theorem VS_row {ops : List RK} {i : Nat} {o : RK} (h : ops[i]? = some o) : VS ops (i + 1 + 1) = ([.bool false], (modeAfter o (VS ops (i + 1)).2.1 (VS ops (i + 1)).2.2.1).1, (modeAfter o (VS ops (i + 1)).2.1 (VS ops (i + 1)).2.2.1).2, (VS ops (i + 1)).2.2.2 ++ outK o (modeAfter o (VS ops (i + 1)).2.1 (VS ops (i + 1)).2.2.1).1) := by
  have hi : i < ops.length := by
    rcases Nat.lt_or_ge i ops.length with q | q
    · exact q
    · rw [List.getElem?_eq_none q] at h; cases h
  rw [VS_mid (i := i) (by omega), VS_mid (i := i + 1) (by omega), take_snoc h, runOf_snoc]
  rfl
theorem VS_end (ops : List RK) : VS ops (ops.length + 1) = ([.bool false], (runOf ops).k, (runOf ops).st, openDat :: (runOf ops).out) := by
  rw [VS_mid (Nat.le_refl _), List.take_length]
theorem VS_close (ops : List RK) : VS ops (ops.length + 1 + 1) = ([], (VS ops (ops.length + 1)).2.1, (VS ops (ops.length + 1)).2.2.1, (VS ops (ops.length + 1)).2.2.2 ++ [closeDat]) := by
  rw [VS_end]
  unfold VS
  rw [if_neg (by omega), if_neg (by omega)]
theorem outK_len {P : Value → Dat → Prop} {vs : List Value} {o : RK} {k : Int} (h : All2 P vs (outK o k)) : 0 < vs.length ∧ vs.length ≤ 3 := by
  rw [h.length]
  unfold outK
  split <;> simp
theorem one_len {P : Value → Dat → Prop} {vs : List Value} {d : Dat} (h : All2 P vs [d]) : 0 < vs.length ∧ vs.length ≤ 3 := by
  rw [h.length]; simp
theorem offT {own pre pre2 RB : List (Addr × Obj)} {a b c d l : Addr} {a1 b1 c1 d1 a2 b2 c2 d2 : Obj} (h : ∀ p ∈ own, ∀ q ∈ (a, a1) :: (b, b1) :: (c, c1) :: (d, d1) :: (pre ++ RB), ¬ q.1 = l → q.1 ≠ p.1) (h2 : Apart pre2 own) :
    ∀ p ∈ own, ∀ q ∈ (a, a2) :: (b, b2) :: (c, c2) :: (d, d2) :: ((pre2 ++ pre) ++ RB), ¬ q.1 = l → q.1 ≠ p.1 := by
  intro p hp q hq hl
  rcases List.mem_cons.mp hq with rfl | hq
  · exact h p hp (a, a1) (List.Mem.head _) hl
  rcases List.mem_cons.mp hq with rfl | hq
  · exact h p hp (b, b1) (List.Mem.tail _ (List.Mem.head _)) hl
  rcases List.mem_cons.mp hq with rfl | hq
  · exact h p hp (c, c1) (List.Mem.tail _ (List.Mem.tail _ (List.Mem.head _))) hl
  rcases List.mem_cons.mp hq with rfl | hq
  · exact h p hp (d, d1) (List.Mem.tail _ (List.Mem.tail _ (List.Mem.tail _ (List.Mem.head _)))) hl
  rcases List.mem_append.mp hq with hq | hq
  · rcases List.mem_append.mp hq with hq | hq
    · exact fun e => h2 q hq p hp e.symm
    · exact h p hp q (List.Mem.tail _ (List.Mem.tail _ (List.Mem.tail _ (List.Mem.tail _ (List.mem_append_left _ hq))))) hl
  · exact h p hp q (List.Mem.tail _ (List.Mem.tail _ (List.Mem.tail _ (List.Mem.tail _ (List.mem_append_right _ hq))))) hl
theorem ow_off {own nx : List (Addr × Obj)} {l a : Addr} {o : Obj} (h : ∀ p ∈ own, ∀ q ∈ nx, ¬ q.1 = l → q.1 ≠ p.1) (hm : (a, o) ∈ nx) (hn : @Ne Nat a l) : ∀ p ∈ own, p.1 ≠ a := fun p hp e => h p hp (a, o) hm hn e.symm
theorem row_at {vo vc v : Value} {vrow : List Value} {j : Nat} (h : (vo :: (vrow ++ [vc]))[j + 1]? = some v) : (j < vrow.length ∧ vrow[j]? = some v) ∨ (j = vrow.length ∧ v = vc) := by
  rw [List.getElem?_cons_succ] at h
  rcases Nat.lt_or_ge j vrow.length with q | q
  · rw [List.getElem?_append_left q] at h
    exact .inl ⟨q, h⟩
  · rw [List.getElem?_append_right q] at h
    rcases Nat.eq_zero_or_pos (j - vrow.length) with e | e
    · rw [e] at h
      exact .inr ⟨by omega, (Option.some.inj h).symm⟩
    · rw [List.getElem?_eq_none (by rw [List.length_singleton]; omega)] at h; cases h
-- part Row1
def MidP (h₀ : Heap) (L : Addr) (J : List (Str × Value) → List (Addr × Obj) → Prop) (s : Shared) (f : Flow) (s' : Shared) : Prop :=
  match f with
  | .next => ∃ h tk m' ps nx, s' = { s with heap := h, toks := tk } ∧ Fr h₀ L h m' ∧ News h₀ L h nx ∧ (∀ p ∈ ps, m' p.1 = some p.2) ∧ J ps nx
  | _ => False
section
variable {M : Model} {A : Around} {env : Env} {st : Stmt} {Q : Flow → Shared → Prop} {E : Value → Shared → Prop} {s : Shared} {h₀ : Heap} {L : Addr}
theorem mid_rule {m₀ : Str → Option Value} (_ : Fr h₀ L s.heap m₀) (J : List (Str × Value) → List (Addr × Obj) → Prop) (h : wpAny M A (exec st env) (MidP h₀ L J s) E s)
    (k : ∀ h9 tk u ps nx, Fr h₀ L h9 (kstB u ps) → News h₀ L h9 nx → J ps nx → Q .next { s with heap := h9, toks := tk }) : wpAny M A (exec st env) Q E s :=
  wpAny_mono h (fun f s' p => by
    cases f with
    | next =>
      obtain ⟨h', tk, m', ps, nx, rfl, F, N, hk, hJ⟩ := p
      exact k h' tk m' ps nx (fr_k0 hk F) N hJ
    | ret v => exact p.elim
    | brk => exact p.elim
    | cont => exact p.elim) fun _ _ e => e
theorem MidP.next {J : List (Str × Value) → List (Addr × Obj) → Prop} {h' : Heap} {tk : Nat} {m' : Str → Option Value} {ps : List (Str × Value)} {nx n' : List (Addr × Obj)} (F : Fr h₀ L h' m') (N : News h₀ L h' n') (hn : ∀ p ∈ nx, p ∈ n') (hk : ∀ p ∈ ps, m' p.1 = some p.2) (hj : J ps nx) : MidP h₀ L J s .next { s with heap := h', toks := tk } :=
  ⟨h', tk, m', ps, nx, rfl, F, fun p hp => N p (hn p hp), hk, hj⟩
end
theorem heldI {P : Prop} (h : P) : Held P := h
theorem name_op {pre : List (Addr × Obj)} {v : Value} {x : Str} {l : Addr} {P : Prop} (_ : OpAt pre v x l) (k : ∀ l', l' = l → P) : P := k l rfl
theorem ten5 {v : Int} (h : 0 ≤ v) : (10 * v + 5).fmod 10 ≠ 0 := by
  rw [Int.fmod_eq_emod_of_nonneg _ (by decide)]
  omega
section
variable {prog : Program} {w : World} {A : Around} {E : Value → Shared → Prop} {s : Shared} {h₀ : Heap} {L : Addr} {full : List (Addr × Obj)}
theorem eq_nil_L {l b : Addr} {xs : List Value} {n n2 : Nat} {Q : Value → Shared → Prop} (N : News h₀ L s.heap full) (hl : (l, listOf xs.toArray n) ∈ full) (hb : (b, listOf #[] n2) ∈ full) (hu : A.units < cLine) {t : Bool} (ht : xs.isEmpty = t)
    (h : Q (.bool t) s) : wpAny (model prog w) A (compareOp .Eq (.ref l) (.ref b)) Q E s := by
  subst ht
  have e1 := News.isList N hl
  have e2 := News.isList N hb
  cases xs with
  | nil => exact PySem.SeqAt.eq_listAt (e := fun _ => true) e1 e2 rfl hu (fun j h1 => absurd h1 (Nat.not_lt_zero _)) h
  | cons x xs => exact PySem.SeqAt.RcAt.lists_lengths e1 e2 (by simp) hu prog w E Q h
end
theorem ne_ltl {a x b : Nat} {ob : Obj} {l : List (Addr × Obj)} (h : a < x ∧ AllLt x l) (hm : (b, ob) ∈ l) : x ≠ b := Nat.ne_of_gt (allLt_mem h.2 _ hm)
section
variable {prog : Program} {w : World} {A : Around} {E : Value → Shared → Prop} {s : Shared} {h₀ : Heap} {L D : Addr} {m : Str → Option Value} {full : List (Addr × Obj)}
theorem pop_L {us : List Value} {l : List Int} {n : Nat} {Q : Value → Shared → Prop} (keep : List (Addr × Obj)) (F : Fr h₀ L s.heap m) (N : News h₀ L s.heap full) (hm : (D, listOf us.toArray n) ∈ full) (hk : ∀ p ∈ keep, p ∈ full) (hne : ∀ p ∈ keep, p.1 ≠ D) (hi : IntsAre us l) (h0 : 0 < us.length) (hz : us.length ≤ 1000)
    (h : ∀ h' t, Fr h₀ L h' m → News h₀ L h' ((D, listOf us.dropLast.toArray (n + 1)) :: keep) → Q (.int (l.getLastD 0) t) { s with heap := h' }) : wpAny (model prog w) A (call (.builtin "list.pop") [.ref D]) Q E s := by
  have N' : News h₀ L s.heap ((D, listOf us.toArray n) :: keep) := fun p hp => (List.mem_cons.mp hp).elim (fun e => e ▸ N _ hm) fun hp => N p (hk p hp)
  exact kpa_pop F N' (.head hne) hi h0 (by rw [sizeLine_eq]; omega) fun h' t F' N'' _ => h h' t F' N''
end
theorem word_tj {x : Str} {ds : List Dat} (h : RK.tj.dat = .tuple [.str x, .tuple ds]) : x = Str.ofString "Tj" := by
  unfold RK.dat at h
  injection h with h
  injection h with h
  injection h with h
  exact h.symm
theorem word_no {o : RK} {x : Str} {ds : List Dat} (hn : o ≠ .tj) (h : o.dat = .tuple [.str x, .tuple ds]) : (x == Str.ofString "Tj") = false := by
  have e : x = Str.ofString "Tr" ∨ x = Str.ofString "q" ∨ x = Str.ofString "Q" := by
    cases o with
    | tj => exact absurd rfl hn
    | trI k => unfold RK.dat trDat at h; injection h with h; injection h with h; injection h with h; exact .inl h.symm
    | trD a b => unfold RK.dat at h; injection h with h; injection h with h; injection h with h; exact .inl h.symm
    | q => unfold RK.dat at h; injection h with h; injection h with h; injection h with h; exact .inr (.inl h.symm)
    | Q => unfold RK.dat at h; injection h with h; injection h with h; injection h with h; exact .inr (.inr h.symm)
  rcases e with rfl | rfl | rfl <;> decide
theorem any_hid {k : Int} (h : hidden k = true) : ([3, 7].any fun x => x == k) = true := by
  unfold hidden at h
  simp only [Bool.or_eq_true, beq_iff_eq] at h
  rcases h with rfl | rfl <;> decide
theorem any_vis {k : Int} (h : hidden k = false) : ([3, 7].any fun x => x == k) = false := by
  unfold hidden at h
  simp only [Bool.or_eq_false_iff, beq_eq_false_iff_ne] at h
  exact any37 h.1 h.2
theorem outK_no {o : RK} {k : Int} (h : o ≠ .tj) : outK o k = [o.dat] := by unfold outK; rw [if_neg fun e => h e.1]
theorem outK_hid {k : Int} (h : hidden k = true) : outK .tj k = [RK.tj.dat] := by unfold outK; rw [if_neg fun e => by rw [h] at e; cases e.2]
theorem outK_vis {k : Int} (h : hidden k = false) : outK .tj k = [trDat (otherMode k), RK.tj.dat, trDat k] := by unfold outK; rw [if_pos ⟨rfl, h⟩]
theorem first3 {h₀ h : Heap} {L : Addr} {P : Prop} {x y z : Addr × Obj} {R : List (Addr × Obj)} (_ : News h₀ L h (x :: y :: z :: R)) (k : ∀ PA, PA = [x, y, z] → P) : P := k _ rfl
theorem first4 {h₀ h : Heap} {L : Addr} {P : Prop} {w x y z : Addr × Obj} {R : List (Addr × Obj)} (_ : News h₀ L h (w :: x :: y :: z :: R)) (k : ∀ PA, PA = [x, y, z] → P) : P := k _ rfl
theorem run_next {ops : List RK} {o : RK} {k k2 : Int} {st st2 : List Int} {ds : List Dat} (hS : runOf ops = ⟨k, st, ds⟩) (hM : modeAfter o k st = (k2, st2)) : runOf (ops ++ [o]) = ⟨k2, st2, ds ++ outK o k2⟩ := by
  rw [runOf_snoc, hS]
  unfold RS.next
  dsimp only
  rw [hM]
theorem ap_chain {x a b c d : Nat} {oa ob oc od : Obj} {l : List (Addr × Obj)} (h : a < x ∧ b < x ∧ c < x ∧ d < x ∧ AllLt x l) : ∀ q ∈ (a, oa) :: (b, ob) :: (c, oc) :: (d, od) :: l, q.1 ≠ x :=
  ne_cons (Nat.ne_of_lt h.1) (ne_cons (Nat.ne_of_lt h.2.1) (ne_cons (Nat.ne_of_lt h.2.2.1) (ne_cons (Nat.ne_of_lt h.2.2.2.1) fun p hp => Nat.ne_of_lt (allLt_mem h.2.2.2.2 p hp))))
theorem ap_all {x : Nat} {l : List (Addr × Obj)} (h : AllLt x l) : ∀ q ∈ l, q.1 ≠ x := fun p hp => Nat.ne_of_lt (allLt_mem h p hp)
theorem ap_one {x : Nat} {l : List (Addr × Obj)} (h : ∀ p ∈ l, p.1 < x) : ∀ q ∈ l, q.1 ≠ x := fun p hp => Nat.ne_of_lt (h p hp)
-- part Mid2
theorem execs_mid2 {M : Model} {A : Around} {env : Env} {st1 st2 : Stmt} {sts : List Stmt} {Q : Flow → Shared → Prop} {E : Value → Shared → Prop} {s : Shared} {h₀ : Heap} {L : Addr} {m₀ : Str → Option Value} (_ : Fr h₀ L s.heap m₀) (J : List (Str × Value) → List (Addr × Obj) → Prop)
    (h : wpAny M A (exec st1 env) (fun f s1 => match f with | .next => wpAny M A (exec st2 env) (MidP h₀ L J s) E s1 | _ => False) E s)
    (k : ∀ h9 tk u ps nx, Fr h₀ L h9 (kstB u ps) → News h₀ L h9 nx → J ps nx → wpAny M A (execs sts env) Q E { s with heap := h9, toks := tk }) : wpAny M A (execs (st1 :: st2 :: sts) env) Q E s :=
  wpAny_execs_cons (wpAny_mono h (fun f s1 p => by
    cases f with
    | next =>
      exact wpAny_execs_cons (wpAny_mono p (fun f s' p => by
        cases f with
        | next =>
          obtain ⟨h', tk, m', ps, nx, rfl, F, N, hk, hJ⟩ := p
          exact k h' tk m' ps nx (fr_k0 hk F) N hJ
        | ret v => exact p.elim
        | brk => exact p.elim
        | cont => exact p.elim) fun _ _ e => e)
    | ret v => exact p.elim
    | brk => exact p.elim
    | cont => exact p.elim) fun _ _ e => e)
inductive MidD (w : World) (h₀ : Heap) (src cl T di dn tr L2 sh : Addr) (oT1 oI1 oN1 oTr : Obj) (pre R0 : List (Addr × Obj)) (mj pl : Nat) : List (Str × Value) → List (Addr × Obj) → Prop
  | mk (r2 p2 t3 t4 n2 oc3 fd fo wv vw Z kvf : _) (e1 : 0 ≤ r2) (e2 : p2 ≤ pl + 2) (e3 : Obj.data oc3 = Data.cell (some (.ref wv))) (e4 : (fd == sysModules) = false) (e5 : Apart Z ((src, srcO cl r2 p2 t3 t4 n2) :: (T, oT1) :: (di, oI1) :: (dn, oN1) :: (tr, oTr) :: (L2, oc3) :: R0)) (e6 : (fd, fo) ∈ Z) (e7 : Obj.IsDictOf (PySem.strKind PySem.Challenge.rw_qd0128_01.prog w) fo kvf) (e8 : IntentAt Z ((valueAt kvf (Str.ofString "Intent")).getD .none) (menuW mj)) (e9 : ∀ k : Str, (k == Str.ofString "Intent") = false → (valueAt kvf k).getD .none = .none) (e10 : LCg.SrcAt h₀ wv (List.toArray vw) (Z ++ (pre ++ R0))) (e11 : Held (StrsAre vw (wordsOr (menuW mj)))) :
    MidD w h₀ src cl T di dn tr L2 sh oT1 oI1 oN1 oTr pre R0 mj pl [((Str.ofString "source"), .ref src), ((Str.ofString "shelf"), .ref sh), ((Str.ofString "names"), .ref dn), ((Str.ofString "first"), .ref fd)] ((src, srcO cl r2 p2 t3 t4 n2) :: (T, oT1) :: (di, oI1) :: (dn, oN1) :: (tr, oTr) :: (L2, oc3) :: (Z ++ (pre ++ R0)))
-- part Lst
theorem ints_of {kvs : List (Int × Value)} : ∀ (vs : List Value), vs.length = kvs.length → (∀ (j : Nat) (v : Value), vs[j]? = some v → ∃ k x t, kvs[j]? = some (k, x) ∧ v = .int k t) → IntsAre vs (kvs.map (·.1)) := by
  induction kvs with
  | nil =>
    intro vs hl _
    cases vs with
    | nil => exact .nil
    | cons => simp at hl
  | cons q r ih =>
    intro vs hl hv
    cases vs with
    | nil => simp at hl
    | cons v vs =>
      obtain ⟨k, x, t, e, ev⟩ := hv 0 v rfl
      simp only [List.getElem?_cons_zero, Option.some.injEq] at e
      subst e
      subst ev
      exact .cons _ _ (ih vs (by simpa using hl) fun j u hu => by simpa using hv (j + 1) u (by simpa using hu))
theorem keyed_fst (vb : List Value) : (keyed vb).map (·.1) = upTo vb.length := by
  unfold keyed
  rw [List.map_fst_zip]
  rw [upTo_length]
  exact Nat.le_refl _
section
variable {prog : Program} {w : World} {A : Around} {E : Value → Shared → Prop} {s : Shared} {h₀ : Heap} {L d : Addr} {m : Str → Option Value} {news : List (Addr × Obj)} {Q : Value → Shared → Prop} {o : Obj}
theorem list_D {kvs : List (Int × Value)} (hh : A.handled = none) (F : Fr h₀ L s.heap m) (N : News h₀ L s.heap news) (hp : (d, o) ∈ news) (hd : o.IsDictOf (PySem.intKind prog w) kvs) (lo : (d == sysModules) = false) (hn : kvs.length ≤ 1000)
    (h : ∀ (B : Addr) c h' tk vs, Fr h₀ L h' m → News h₀ L h' ((B, listOf (List.toArray vs) c) :: news) → (∀ q ∈ news, q.1 < B) → IntsAre vs (kvs.map (·.1)) → Q (.ref B) { s with heap := h', toks := tk }) :
    wpAny (model prog w) A (call (.type "list") [.ref d]) Q E s := by
  obtain ⟨ep, hat⟩ := (kda_dict N hp hd).dictAt
  refine kdl_N (kdl_dict (knd := PySem.intKind prog w) (kvs := kvs) (ep := ep) lo) hh F N hat (kdl_size (by omega)) fun B c h' tk vs F' N' l1 hl hv => ?_
  refine h B c h' tk vs F' N' l1 (ints_of vs hl fun j u hu => ?_)
  obtain ⟨k, x, hx, hk⟩ := hv j u hu
  obtain ⟨t, rfl⟩ := Value.isInt_shape hk
  exact ⟨k, x, t, hx, rfl⟩
theorem ne_same {l b : Addr} {xs ys : List Value} {n n2 : Nat} {Q : Value → Shared → Prop} (N : News h₀ L s.heap news) (hl : (l, listOf xs.toArray n) ∈ news) (hb : (b, listOf ys.toArray n2) ∈ news) (hu : A.units < cLine) (hz : xs.length = ys.length)
    (he : ∀ (j : Nat) u v, xs[j]? = some u → ys[j]? = some v → PySem.SeqAt.EqAt A.in1 s u v true) (h : Q (.bool false) s) : wpAny (model prog w) A (compareOp .NotEq (.ref l) (.ref b)) Q E s := by
  have q := PySem.SeqAt.RcNeAt.lists (e := fun _ => true) (A := A) (News.isList N hl) (News.isList N hb) (by rw [List.size_toArray, List.size_toArray, hz]) hu (fun j h1 h2 => he j _ _ (by simp at h1; simp [h1]) (by simp at h2; simp [h2])) prog w E Q
  rw [all_true] at q
  exact q h
theorem eq_same {l b : Addr} {xs ys : List Value} {n n2 : Nat} {Q : Value → Shared → Prop} (N : News h₀ L s.heap news) (hl : (l, listOf xs.toArray n) ∈ news) (hb : (b, listOf ys.toArray n2) ∈ news) (hu : A.units < cLine) (hz : xs.length = ys.length)
    (he : ∀ (j : Nat) u v, xs[j]? = some u → ys[j]? = some v → PySem.SeqAt.EqAt A.in1 s u v true) (h : Q (.bool true) s) : wpAny (model prog w) A (compareOp .Eq (.ref l) (.ref b)) Q E s := by
  have q := PySem.SeqAt.RcAt.lists (e := fun _ => true) (A := A) (News.isList N hl) (News.isList N hb) (by rw [List.size_toArray, List.size_toArray, hz]) hu (fun j h1 h2 => he j _ _ (by simp at h1; simp [h1]) (by simp at h2; simp [h2])) prog w E Q
  rw [all_true] at q
  exact q h
theorem ne_ints_L {l b : Addr} {xs ys : List Value} {ks : List Int} {n n2 : Nat} {Q : Value → Shared → Prop} (N : News h₀ L s.heap news) (hl : (l, listOf xs.toArray n) ∈ news) (hb : (b, listOf ys.toArray n2) ∈ news) (hu : A.units < cLine) (hx : IntsAre xs ks) (hy : IntsAre ys ks) (h : Q (.bool false) s) :
    wpAny (model prog w) A (compareOp .NotEq (.ref l) (.ref b)) Q E s := by
  refine ne_same N hl hb hu (by rw [hx.length, hy.length]) (fun j u v e1 e2 => ?_) h
  obtain ⟨k, t, q1, rfl⟩ := ints_get hx e1
  obtain ⟨k2, t2, q2, rfl⟩ := ints_get hy e2
  rw [q1] at q2
  cases q2
  have z := PySem.SeqAt.EqAt.int_int (A := A.in1) (s := s) k t k t2
  rw [beq_self_eq_true] at z
  exact z
theorem bytes_get {xs : List Value} {bs : List (Array UInt8)} (h : BytesAre xs bs) : ∀ {i : Nat} {v : Value}, xs[i]? = some v → ∃ b t, bs[i]? = some b ∧ v = .bytes b t := by
  induction h with
  | nil => intro i v e; simp at e
  | cons b t _ ih =>
    intro i v e
    cases i with
    | zero => simp at e; subst e; exact ⟨_, _, rfl, rfl⟩
    | succ i => simp at e; simpa using ih e
theorem ne_bytes_L {l b : Addr} {xs ys : List Value} {bs : List (Array UInt8)} {n n2 : Nat} {Q : Value → Shared → Prop} (N : News h₀ L s.heap news) (hl : (l, listOf xs.toArray n) ∈ news) (hb : (b, listOf ys.toArray n2) ∈ news) (hu : A.units < cLine) (hx : BytesAre xs bs) (hy : BytesAre ys bs) (h : Q (.bool false) s) :
    wpAny (model prog w) A (compareOp .NotEq (.ref l) (.ref b)) Q E s := by
  refine ne_same N hl hb hu (by rw [hx.length, hy.length]) (fun j u v e1 e2 => ?_) h
  obtain ⟨k, t, q1, rfl⟩ := bytes_get hx e1
  obtain ⟨k2, t2, q2, rfl⟩ := bytes_get hy e2
  rw [q1] at q2
  cases q2
  exact eq_bytes_at k t t2
theorem eq_dats_L {l b : Addr} {xs ys : List Value} {ds : List Dat} {n n2 : Nat} {Q : Value → Shared → Prop} (N : News h₀ L s.heap news) (hl : (l, listOf xs.toArray n) ∈ news) (hb : (b, listOf ys.toArray n2) ∈ news) (hu : A.units + 8 < cLine) (hd : ds.all (dok 3) = true) (hx : All2 (DatIn news) xs ds) (hy : All2 (DatIn news) ys ds) (h : Q (.bool true) s) :
    wpAny (model prog w) A (compareOp .Eq (.ref l) (.ref b)) Q E s := by
  refine eq_same N hl hb (by omega) (by rw [hx.length, hy.length]) (fun j u v e1 e2 => ?_) h
  obtain ⟨d1, q1, p1⟩ := hx.get e1
  obtain ⟨d2, q2, p2⟩ := hy.get e2
  rw [q1] at q2
  cases q2
  exact eq_dat 3 d1 _ s u v (List.all_eq_true.mp hd _ (List.mem_of_getElem? q1)) p1 p2 N (by rw [units_in1]; omega)
theorem addl_L {l b : Addr} {xs ys : List Value} {n n2 : Nat} (F : Fr h₀ L s.heap m) (N : News h₀ L s.heap news) (hl : (l, listOf xs.toArray n) ∈ news) (hb : (b, listOf ys.toArray n2) ∈ news) (hz : xs.length + ys.length ≤ 1000)
    (h : ∀ (B : Addr) c h' tk, Fr h₀ L h' m → News h₀ L h' ((B, listOf (List.toArray (xs ++ ys)) c) :: news) → (∀ q ∈ news, q.1 < B) → Q (.ref B) { s with heap := h', toks := tk }) :
    wpAny (model prog w) A (binaryOp .Add (.ref l) (.ref b)) Q E s := by
  exact add_lists (hsz := by rw [sizeLine_eq]; omega) F N (News.isList N hl) (News.isList N hb) fun h' F' N' => h _ 0 h' _ F' N' fun q hq => Heap.lt_size (N q hq).1
end
end
end
end
section
set_option hygiene false in
local macro_rules | `(tactic| kt_at_method) => `(tactic| first | (apply NeAll.of; with_reducible assumption) | with_reducible apply NeAll.nil | (with_reducible apply NeAll.ofLt; simp only [AllLt, and_true]; with_reducible assumption) | ((with_reducible apply NeAll.cons); (focus k_ne); kt_at_method) | ((with_reducible apply NeAll.app); (focus kt_at_method); kt_at_method) | (apply NeAll.of; exact Apart.ne (by with_reducible assumption) (by k_mem)))
-- part Isopen
theorem isopen_ok (w : World) (news : List (Addr × Obj)) (v x1 x2 : Value) (l vd : Addr) (ov : Obj) (n1 : Nat) (ho : OpAt news v (Str.ofString "BDC") l) (hl : (l, listOf [x1, x2].toArray n1) ∈ news) (hn1 : NameAt news x1 (Str.ofString "OC")) (hn2 : NameAt news x2 (Str.ofString "A")) (hv : (vd, ov) ∈ news) (hd : ov.IsDictOf (PySem.strKind PySem.Challenge.rw_qd0128_01.prog w) [(Str.ofString "A", .bool false)]) (lo : (vd == sysModules) = false) : Ctr w 504 3 [v, .ref vd] news (fun r' n' => Value.bool false = r' ∧ news = n') := by
  unfold Ctr
  k_fill
  k_with_none
  have ho' := ho
  obtain ⟨a, da, h1, k1, t1, h2, k2, c, ev, m1, m2⟩ := ho'
  subst ev
  have hnm : NamesAre news [x1, x2] [Str.ofString "OC", Str.ofString "A"] := .cons hn1 (.cons hn2 .nil)
  intros; rename_i hret
  refine (let A9 : Around := _; (?_ : wpAny _ A9 _ _ _ _))
  refine wpAny_call ?_
  k_dflt (refine' code_def ?k1 ?k2 ?k3 ?k4 ?k5 ?kA ?kF ?kK ?k6 ?k7 ?k8 ?k9 ?kB ?_ ?c2 ?c3 ?c4 ?c5; (case kA => exact rfl); (case kF => exact rfl); (case kK => first | assumption | exact rfl); (case k1 => k_asm); (case k2 => k_asm); (case k3 => k_asm); (case k4 => k_asm); (case k5 => k_asm); (case k6 => k_is); (case k7 => k_is); (case k8 => ktr_room); (case k9 => first | exact BindsTo.of_eq rfl | exact binds_K (by k_in) rfl (by k_is) rfl rfl rfl); (case c5 => decide); (case kB => exact locs rfl); (case c2 => exact rfl); (case c3 => exact rfl); (case c4 => exact rfl); k_whole; intro g' L' h' FG' F' N' B' X' T'; (try dsimp only); (try k_lift B'); (try k_fold))
  refine (let e9 : Env := _; (?_ : wpAny _ (Around.deeper _ e9) (execs _ e9) _ _ _))
  refine (let B9 : Around := _; (?_ : wpAny _ B9 _ _ _ _))
  (rename Fr _ _ _ _ => lF)
  replace lF := fr_fold [((Str.ofString "operation"), .ref a), ((Str.ofString "visible"), .ref vd)] lF (by tb_start)
  obtain ⟨u, lF⟩ := lF
  dsimp only [kstB] at lF
  k_with_none
  k_steps
  unfold Held
  k_dflt (refine' compT_same (xs := [x1, x2]) (fun i ys => StrsAre ys ([Str.ofString "OC", Str.ofString "A"].take i)) (by rfl) ?F ?N ?m ?z ?j0 ?turn ?fin)
  case F => k_asm
  case N => k_asm
  case m => k_mem
  case z => simp
  case j0 => exact .nil
  case turn =>
    intro i v ys I oI C oC D m₂ h tk E' hv hJ hS hC hx F N o3 n3
    have hv9 := hv
    obtain ⟨x, hxw, hxn⟩ := hnm.get hv
    have hxn' := hxn
    obtain ⟨b, db, x1, x2, x3, x4, ex, mx1, mx2⟩ := hxn
    subst ex
    k_with "isi!" => (k_dflt (refine' Knd.isi (b := true) ?k ?N ?X ?e ?_); (case N => k_asm); (case k => k_dflt (exact hxn'.knd.sub (by tb_rel))); (case X => k_in); (case e => kit_is); k_whole; intro tk')
    k_steps
    unfold Held
    (k_dflt (refine' end_same ?F ?N ?sub ?off ?hS ?r); (case F => k_asm); (case N => k_asm); (case sub => tb_rel); (case off => assumption); (case hS => assumption); (case r => (rw [take_snoc hxw]; exact kct_snoc hJ)))
  case fin =>
    intro g9 ys hJ
    replace hJ : StrsAre ys [Str.ofString "OC", Str.ofString "A"] := hJ
    obtain ⟨t8, t9, ey⟩ := strs2 hJ
    subst ey
    unfold LCg.FinA
    intro D h tk F N o1
    k_with "dictget!" => (k_dflt (refine' kdg_get2 (knd := PySem.strKind _ _) ?gN ?gm hd lo (strKind_is _ _ _ _) _ rfl ?_); (case gN => k_asm); (case gm => k_mem))
    k_with "method!" => (k_dflt (refine' kdg_method (knd := PySem.strKind _ _) ?gN ?gm hd ?_); (case gN => k_asm); (case gm => k_mem))
    k_with "call builtin:len" => (k_dflt (refine' len_L ?wN ?wm ?wz ?_); (case wN => k_asm); (case wm => k_mem); (case wz => exact Nat.le_of_ble_eq_true rfl); intro t9 tk9; (try dsimp only [List.length]))
    k_steps
    all_goals (refine' hret _ _ _ _ ?e1 ?e2 ?e3; (case e1 => k_asm); (case e2 => exact cb_drop (news := news) (by k_asm) (by tb_rel)); (case e3 => exact ⟨by with_unfolding_all rfl, rfl⟩))
-- part Step
theorem whole_0 (w : World) (news : List (Addr × Obj)) (v : Value) (x : Int) (hd : DecAt news v x 0) : Ctr w 117 1 [v] news (fun r' n' => Value.bool true = r' ∧ news = n') := whole_ok w news v x 0 hd
theorem whole_1 (w : World) (news : List (Addr × Obj)) (v : Value) (x : Int) (hd : DecAt news v x 1) : Ctr w 117 1 [v] news (fun r' n' => Value.bool false = r' ∧ news = n') := whole_ok w news v x 1 hd
theorem step_tj (w : World) (rest : List (Addr × Obj)) (sg dsg lm lo vd : Addr) (h1 h2 h3 : Int) (k1 k2 k3 : Tok) (k : Int) (t : Tok) (ms : List Value) (st : List Int) (nm nm2 : Nat) (v : Value) (l : Addr) (m0 : (sg, instObj 535 dsg) ∈ rest) (his : IntsAre ms st) (hz : ms.length ≤ 100) (x1 : ∀ p ∈ rest, p.1 ≠ dsg) (x2 : ∀ p ∈ rest, p.1 ≠ lo) (x3 : ∀ p ∈ rest, p.1 ≠ lm) (y1 : dsg ≠ lo) (y2 : dsg ≠ lm) (y3 : lo ≠ lm) (ho : OpAt rest v (Str.ofString "Tj") l)  : Ctr w 532 6 [.ref sg, v, .ref vd] ((dsg, sightO h1 h2 h3 k1 k2 k3 lm lo k t) :: (lo, listOf ms.toArray nm) :: (lm, listOf (List.toArray [Value.bool false]) nm2) :: rest) (fun r' n' => Value.none = r' ∧ ∃ nx t2, ((dsg, sightO h1 h2 h3 k1 k2 k3 lm lo k t2) :: (lo, listOf ms.toArray nx) :: (lm, listOf (List.toArray [Value.bool false]) nm2) :: rest) = n') := by
  unfold Ctr
  k_fill
  k_with_none
  have ho' := ho
  obtain ⟨a, da, g1, j1, t1, g2, j2, c9, ev, m1, m2⟩ := ho'
  subst ev
  intros; rename_i hret
  refine (let A9 : Around := _; (?_ : wpAny _ A9 _ _ _ _))
  refine wpAny_call ?_
  k_dflt (refine' code_def ?k1 ?k2 ?k3 ?k4 ?k5 ?kA ?kF ?kK ?k6 ?k7 ?k8 ?k9 ?kB ?_ ?c2 ?c3 ?c4 ?c5; (case kA => exact rfl); (case kF => exact rfl); (case kK => first | assumption | exact rfl); (case k1 => k_asm); (case k2 => k_asm); (case k3 => k_asm); (case k4 => k_asm); (case k5 => k_asm); (case k6 => k_is); (case k7 => k_is); (case k8 => ktr_room); (case k9 => first | exact BindsTo.of_eq rfl | exact binds_K (by k_in) rfl (by k_is) rfl rfl rfl); (case c5 => decide); (case kB => exact locs rfl); (case c2 => exact rfl); (case c3 => exact rfl); (case c4 => exact rfl); k_whole; intro g' L' h' FG' F' N' B' X' T'; (try dsimp only); (try k_lift B'); (try k_fold))
  refine (let e9 : Env := _; (?_ : wpAny _ (Around.deeper _ e9) (execs _ e9) _ _ _))
  refine (let B9 : Around := _; (?_ : wpAny _ B9 _ _ _ _))
  (rename Fr _ _ _ _ => lF)
  replace lF := fr_fold [((Str.ofString "self"), .ref sg), ((Str.ofString "operation"), .ref a), ((Str.ofString "visible"), .ref vd)] lF (by tb_start)
  obtain ⟨u, lF⟩ := lF
  dsimp only [kstB] at lF
  k_with_none
  k_steps
  all_goals (refine' hret _ _ _ _ ?e1 ?e2 ?e3; (case e1 => k_asm); (case e2 => k_asm); (case e3 => exact ⟨rfl, nm, t, rfl⟩))
theorem step_q (w : World) (rest : List (Addr × Obj)) (sg dsg lm lo vd : Addr) (h1 h2 h3 : Int) (k1 k2 k3 : Tok) (k : Int) (t : Tok) (ms : List Value) (st : List Int) (nm nm2 : Nat) (v : Value) (l : Addr) (m0 : (sg, instObj 535 dsg) ∈ rest) (his : IntsAre ms st) (hz : ms.length ≤ 100) (x1 : ∀ p ∈ rest, p.1 ≠ dsg) (x2 : ∀ p ∈ rest, p.1 ≠ lo) (x3 : ∀ p ∈ rest, p.1 ≠ lm) (y1 : dsg ≠ lo) (y2 : dsg ≠ lm) (y3 : lo ≠ lm) (ho : OpAt rest v (Str.ofString "q") l)  : Ctr w 532 6 [.ref sg, v, .ref vd] ((dsg, sightO h1 h2 h3 k1 k2 k3 lm lo k t) :: (lo, listOf ms.toArray nm) :: (lm, listOf (List.toArray [Value.bool false]) nm2) :: rest) (fun r' n' => Value.none = r' ∧ ∃ nx t2, ((dsg, sightO h1 h2 h3 k1 k2 k3 lm lo k t2) :: (lo, listOf (ms ++ [Value.int k t]).toArray nx) :: (lm, listOf (List.toArray [Value.bool false]) nm2) :: rest) = n') := by
  unfold Ctr
  k_fill
  k_with_none
  have ho' := ho
  obtain ⟨a, da, g1, j1, t1, g2, j2, c9, ev, m1, m2⟩ := ho'
  subst ev
  intros; rename_i hret
  refine (let A9 : Around := _; (?_ : wpAny _ A9 _ _ _ _))
  refine wpAny_call ?_
  k_dflt (refine' code_def ?k1 ?k2 ?k3 ?k4 ?k5 ?kA ?kF ?kK ?k6 ?k7 ?k8 ?k9 ?kB ?_ ?c2 ?c3 ?c4 ?c5; (case kA => exact rfl); (case kF => exact rfl); (case kK => first | assumption | exact rfl); (case k1 => k_asm); (case k2 => k_asm); (case k3 => k_asm); (case k4 => k_asm); (case k5 => k_asm); (case k6 => k_is); (case k7 => k_is); (case k8 => ktr_room); (case k9 => first | exact BindsTo.of_eq rfl | exact binds_K (by k_in) rfl (by k_is) rfl rfl rfl); (case c5 => decide); (case kB => exact locs rfl); (case c2 => exact rfl); (case c3 => exact rfl); (case c4 => exact rfl); k_whole; intro g' L' h' FG' F' N' B' X' T'; (try dsimp only); (try k_lift B'); (try k_fold))
  refine (let e9 : Env := _; (?_ : wpAny _ (Around.deeper _ e9) (execs _ e9) _ _ _))
  refine (let B9 : Around := _; (?_ : wpAny _ B9 _ _ _ _))
  (rename Fr _ _ _ _ => lF)
  replace lF := fr_fold [((Str.ofString "self"), .ref sg), ((Str.ofString "operation"), .ref a), ((Str.ofString "visible"), .ref vd)] lF (by tb_start)
  obtain ⟨u, lF⟩ := lF
  dsimp only [kstB] at lF
  k_with_none
  k_steps
  all_goals (refine' hret _ _ _ _ ?e1 ?e2 ?e3; (case e1 => k_asm); (case e2 => k_asm); (case e3 => exact ⟨rfl, nm + 1, t, by simp only [List.push_toArray]⟩))
theorem step_Q0 (w : World) (rest : List (Addr × Obj)) (sg dsg lm lo vd : Addr) (h1 h2 h3 : Int) (k1 k2 k3 : Tok) (k : Int) (t : Tok) (ms : List Value) (st : List Int) (nm nm2 : Nat) (v : Value) (l : Addr) (m0 : (sg, instObj 535 dsg) ∈ rest) (his : IntsAre ms st) (hz : ms.length ≤ 100) (x1 : ∀ p ∈ rest, p.1 ≠ dsg) (x2 : ∀ p ∈ rest, p.1 ≠ lo) (x3 : ∀ p ∈ rest, p.1 ≠ lm) (y1 : dsg ≠ lo) (y2 : dsg ≠ lm) (y3 : lo ≠ lm) (ho : OpAt rest v (Str.ofString "Q") l) (hp : ms = []) : Ctr w 532 6 [.ref sg, v, .ref vd] ((dsg, sightO h1 h2 h3 k1 k2 k3 lm lo k t) :: (lo, listOf ms.toArray nm) :: (lm, listOf (List.toArray [Value.bool false]) nm2) :: rest) (fun r' n' => Value.none = r' ∧ ∃ nx t2, ((dsg, sightO h1 h2 h3 k1 k2 k3 lm lo k t2) :: (lo, listOf ms.toArray nx) :: (lm, listOf (List.toArray [Value.bool false]) nm2) :: rest) = n') := by
  unfold Ctr
  k_fill
  k_with_none
  have ho' := ho
  obtain ⟨a, da, g1, j1, t1, g2, j2, c9, ev, m1, m2⟩ := ho'
  subst ev
  subst hp
  intros; rename_i hret
  refine (let A9 : Around := _; (?_ : wpAny _ A9 _ _ _ _))
  refine wpAny_call ?_
  k_dflt (refine' code_def ?k1 ?k2 ?k3 ?k4 ?k5 ?kA ?kF ?kK ?k6 ?k7 ?k8 ?k9 ?kB ?_ ?c2 ?c3 ?c4 ?c5; (case kA => exact rfl); (case kF => exact rfl); (case kK => first | assumption | exact rfl); (case k1 => k_asm); (case k2 => k_asm); (case k3 => k_asm); (case k4 => k_asm); (case k5 => k_asm); (case k6 => k_is); (case k7 => k_is); (case k8 => ktr_room); (case k9 => first | exact BindsTo.of_eq rfl | exact binds_K (by k_in) rfl (by k_is) rfl rfl rfl); (case c5 => decide); (case kB => exact locs rfl); (case c2 => exact rfl); (case c3 => exact rfl); (case c4 => exact rfl); k_whole; intro g' L' h' FG' F' N' B' X' T'; (try dsimp only); (try k_lift B'); (try k_fold))
  refine (let e9 : Env := _; (?_ : wpAny _ (Around.deeper _ e9) (execs _ e9) _ _ _))
  refine (let B9 : Around := _; (?_ : wpAny _ B9 _ _ _ _))
  (rename Fr _ _ _ _ => lF)
  replace lF := fr_fold [((Str.ofString "self"), .ref sg), ((Str.ofString "operation"), .ref a), ((Str.ofString "visible"), .ref vd)] lF (by tb_start)
  obtain ⟨u, lF⟩ := lF
  dsimp only [kstB] at lF
  k_with_none
  k_with "compareOp NotEq ref ref" => (k_dflt (refine' ne_nil_L ?wN ?wl ?wb ?wu ?wt ?_); (case wN => k_asm); (case wl => k_mem); (case wb => k_mem); (case wu => ktr_units); (case wt => rfl))
  k_steps
  all_goals (refine' hret _ _ _ _ ?e1 ?e2 ?e3; (case e1 => k_asm); (case e2 => exact cb_drop (news := ((dsg, sightO h1 h2 h3 k1 k2 k3 lm lo k t) :: (lo, listOf [].toArray nm) :: (lm, listOf (List.toArray [Value.bool false]) nm2) :: rest)) (by k_asm) (by tb_rel)); (case e3 => exact ⟨rfl, nm, t, rfl⟩))
theorem step_Q1 (w : World) (rest : List (Addr × Obj)) (sg dsg lm lo vd : Addr) (h1 h2 h3 : Int) (k1 k2 k3 : Tok) (k : Int) (t : Tok) (ms : List Value) (st : List Int) (nm nm2 : Nat) (v : Value) (l : Addr) (m0 : (sg, instObj 535 dsg) ∈ rest) (his : IntsAre ms st) (hz : ms.length ≤ 100) (x1 : ∀ p ∈ rest, p.1 ≠ dsg) (x2 : ∀ p ∈ rest, p.1 ≠ lo) (x3 : ∀ p ∈ rest, p.1 ≠ lm) (y1 : dsg ≠ lo) (y2 : dsg ≠ lm) (y3 : lo ≠ lm) (ho : OpAt rest v (Str.ofString "Q") l) (hp : 0 < ms.length) (hp2 : (!ms.isEmpty) = true) : Ctr w 532 6 [.ref sg, v, .ref vd] ((dsg, sightO h1 h2 h3 k1 k2 k3 lm lo k t) :: (lo, listOf ms.toArray nm) :: (lm, listOf (List.toArray [Value.bool false]) nm2) :: rest) (fun r' n' => Value.none = r' ∧ ∃ nx t2, ((dsg, sightO h1 h2 h3 k1 k2 k3 lm lo (st.getLastD 0) t2) :: (lo, listOf ms.dropLast.toArray nx) :: (lm, listOf (List.toArray [Value.bool false]) nm2) :: rest) = n') := by
  unfold Ctr
  k_fill
  k_with_none
  have ho' := ho
  obtain ⟨a, da, g1, j1, t1, g2, j2, c9, ev, m1, m2⟩ := ho'
  subst ev
  intros; rename_i hret
  refine (let A9 : Around := _; (?_ : wpAny _ A9 _ _ _ _))
  refine wpAny_call ?_
  k_dflt (refine' code_def ?k1 ?k2 ?k3 ?k4 ?k5 ?kA ?kF ?kK ?k6 ?k7 ?k8 ?k9 ?kB ?_ ?c2 ?c3 ?c4 ?c5; (case kA => exact rfl); (case kF => exact rfl); (case kK => first | assumption | exact rfl); (case k1 => k_asm); (case k2 => k_asm); (case k3 => k_asm); (case k4 => k_asm); (case k5 => k_asm); (case k6 => k_is); (case k7 => k_is); (case k8 => ktr_room); (case k9 => first | exact BindsTo.of_eq rfl | exact binds_K (by k_in) rfl (by k_is) rfl rfl rfl); (case c5 => decide); (case kB => exact locs rfl); (case c2 => exact rfl); (case c3 => exact rfl); (case c4 => exact rfl); k_whole; intro g' L' h' FG' F' N' B' X' T'; (try dsimp only); (try k_lift B'); (try k_fold))
  refine (let e9 : Env := _; (?_ : wpAny _ (Around.deeper _ e9) (execs _ e9) _ _ _))
  refine (let B9 : Around := _; (?_ : wpAny _ B9 _ _ _ _))
  (rename Fr _ _ _ _ => lF)
  replace lF := fr_fold [((Str.ofString "self"), .ref sg), ((Str.ofString "operation"), .ref a), ((Str.ofString "visible"), .ref vd)] lF (by tb_start)
  obtain ⟨u, lF⟩ := lF
  dsimp only [kstB] at lF
  k_with_none
  k_with "compareOp NotEq ref ref" => (k_dflt (refine' ne_nil_L ?wN ?wl ?wb ?wu ?wt ?_); (case wN => k_asm); (case wl => k_mem); (case wb => k_mem); (case wu => ktr_units); (case wt => exact hp2))
  k_steps
  all_goals (refine' hret _ _ _ _ ?e1 ?e2 ?e3; (case e1 => k_asm); (case e2 => exact cb_drop (news := ((dsg, sightO h1 h2 h3 k1 k2 k3 lm lo (st.getLastD 0) _) :: (lo, listOf ms.dropLast.toArray (nm + 1)) :: (lm, listOf (List.toArray [Value.bool false]) nm2) :: rest)) (by k_asm) (by tb_rel)); (case e3 => exact ⟨rfl, nm + 1, _, rfl⟩))
theorem step_trI (w : World) (rest : List (Addr × Obj)) (sg dsg lm lo vd : Addr) (h1 h2 h3 : Int) (k1 k2 k3 : Tok) (k : Int) (t : Tok) (ms : List Value) (st : List Int) (nm nm2 : Nat) (v : Value) (l : Addr) (m0 : (sg, instObj 535 dsg) ∈ rest) (his : IntsAre ms st) (hz : ms.length ≤ 100) (x1 : ∀ p ∈ rest, p.1 ≠ dsg) (x2 : ∀ p ∈ rest, p.1 ≠ lo) (x3 : ∀ p ∈ rest, p.1 ≠ lm) (y1 : dsg ≠ lo) (y2 : dsg ≠ lm) (y3 : lo ≠ lm) (ho : OpAt rest v (Str.ofString "Tr") l) (j : Int) (tj : Tok) (n9 : Nat) (hl : (l, listOf [.int j tj].toArray n9) ∈ rest) : Ctr w 532 6 [.ref sg, v, .ref vd] ((dsg, sightO h1 h2 h3 k1 k2 k3 lm lo k t) :: (lo, listOf ms.toArray nm) :: (lm, listOf (List.toArray [Value.bool false]) nm2) :: rest) (fun r' n' => Value.none = r' ∧ ∃ nx t2, ((dsg, sightO h1 h2 h3 k1 k2 k3 lm lo j t2) :: (lo, listOf ms.toArray nx) :: (lm, listOf (List.toArray [Value.bool false]) nm2) :: rest) = n') := by
  unfold Ctr
  k_fill
  k_with_none
  have ho' := ho
  obtain ⟨a, da, g1, j1, t1, g2, j2, c9, ev, m1, m2⟩ := ho'
  subst ev
  intros; rename_i hret
  refine (let A9 : Around := _; (?_ : wpAny _ A9 _ _ _ _))
  refine wpAny_call ?_
  k_dflt (refine' code_def ?k1 ?k2 ?k3 ?k4 ?k5 ?kA ?kF ?kK ?k6 ?k7 ?k8 ?k9 ?kB ?_ ?c2 ?c3 ?c4 ?c5; (case kA => exact rfl); (case kF => exact rfl); (case kK => first | assumption | exact rfl); (case k1 => k_asm); (case k2 => k_asm); (case k3 => k_asm); (case k4 => k_asm); (case k5 => k_asm); (case k6 => k_is); (case k7 => k_is); (case k8 => ktr_room); (case k9 => first | exact BindsTo.of_eq rfl | exact binds_K (by k_in) rfl (by k_is) rfl rfl rfl); (case c5 => decide); (case kB => exact locs rfl); (case c2 => exact rfl); (case c3 => exact rfl); (case c4 => exact rfl); k_whole; intro g' L' h' FG' F' N' B' X' T'; (try dsimp only); (try k_lift B'); (try k_fold))
  refine (let e9 : Env := _; (?_ : wpAny _ (Around.deeper _ e9) (execs _ e9) _ _ _))
  refine (let B9 : Around := _; (?_ : wpAny _ B9 _ _ _ _))
  (rename Fr _ _ _ _ => lF)
  replace lF := fr_fold [((Str.ofString "self"), .ref sg), ((Str.ofString "operation"), .ref a), ((Str.ofString "visible"), .ref vd)] lF (by tb_start)
  obtain ⟨u, lF⟩ := lF
  dsimp only [kstB] at lF
  k_with_none
  k_with "subscriptTail Attribute" => ((k_dflt (refine kba_turn (value' := PySem.Expr.Name (PySem.Str.ofString "_") ⟨0, 0, 0, 0⟩) (fun _ => rfl) ?_)); k_dflt (refine' item_L ?iN ?im ?i0 ?i1 ?i2 ?_ ?i3 ?i4); (case iN => k_asm); (case im => k_mem); (case i0 => decide); (case i1 => decide); (case i2 => exact rfl); (case i3 => with_unfolding_all rfl); (case i4 => intro _; with_unfolding_all rfl))
  k_with "call builtin:len" => (k_dflt (refine' len_L ?vN ?vm ?vz ?_); (case vN => k_asm); (case vm => k_mem); (case vz => exact Nat.le_of_ble_eq_true rfl); intro t9 tk9; (try dsimp only [List.length]))
  k_with "call!" => ((with_reducible show wpAny _ _ (call (Value.ref 279) _) _ _ _); k_dflt (refine' Ctr.use ?kC ?k1 ?k2 ?k3 ?k4 ?k5 ?kK ?kd ?ku ?_); (case k4 => k_asm); (case kC => k_dflt (exact num_int w _ _ _)); (case k1 => k_asm); (case k2 => k_asm); (case k3 => k_asm); (case k5 => k_asm); (case kK => first | exact rfl | assumption); (case kd => ktr_room); (case ku => ktr_units); intro r9 n9 h9 tk9 F9 N9 p9; (obtain ⟨e8, e9⟩ := p9; subst e8; subst e9); (try dsimp only); (try k_fold))
  k_with "call!" => ((with_reducible show wpAny _ _ (call (Value.ref 173) _) _ _ _); k_dflt (refine' Ctr.use ?kC ?k1 ?k2 ?k3 ?k4 ?k5 ?kK ?kd ?ku ?_); (case k4 => k_asm); (case kC => k_dflt (exact dof_int w _ _ _)); (case k1 => k_asm); (case k2 => k_asm); (case k3 => k_asm); (case k5 => k_asm); (case kK => first | exact rfl | assumption); (case kd => ktr_room); (case ku => ktr_units); intro r9 n9 h9 tk9 F9 N9 p9; (obtain ⟨pre9, e8, hn9, ha9⟩ := p9; subst e8; have hn8 := hn9; unfold DecAt at hn8; obtain ⟨b9, db9, g11, j11, t11, g12, j12, t12, c19, ev9, mm1, mm2⟩ := hn8; subst ev9); (try dsimp only); (try k_fold))
  k_with "call!" => ((have q9 := hn9); clear q9; (with_reducible show wpAny _ _ (call (Value.ref 117) _) _ _ _); k_dflt (refine' Ctr.use ?kC ?k1 ?k2 ?k3 ?k4 ?k5 ?kK ?kd ?ku ?_); (case k4 => k_asm); (case kC => k_dflt (exact whole_0 w _ _ _ (hn9.sub (by tb_rel)))); (case k1 => k_asm); (case k2 => k_asm); (case k3 => k_asm); (case k5 => k_asm); (case kK => first | exact rfl | assumption); (case kd => ktr_room); (case ku => ktr_units); intro r8 n8 h8 tk8 F8 N8 p8; (obtain ⟨e8, e9⟩ := p8; subst e8; subst e9); (try dsimp only); (try k_fold))
  k_with "call!" => ((have q9 := hn9); clear q9; (with_reducible show wpAny _ _ (call (Value.ref 124) _) _ _ _); k_dflt (refine' Ctr.use ?kC ?k1 ?k2 ?k3 ?k4 ?k5 ?kK ?kd ?ku ?_); (case k4 => k_asm); (case kC => k_dflt (exact floor_ok w _ _ _ (hn9.sub (by tb_rel)))); (case k1 => k_asm); (case k2 => k_asm); (case k3 => k_asm); (case k5 => k_asm); (case kK => first | exact rfl | assumption); (case kd => ktr_room); (case ku => ktr_units); intro r7 n7 h7 tk7 F7 N7 p7; (obtain ⟨⟨t7, e8⟩, e9⟩ := p7; subst e8; subst e9; replace N7 := cb_drop (news := ((dsg, sightO h1 h2 h3 k1 k2 k3 lm lo k t) :: (lo, listOf ms.toArray nm) :: (lm, listOf (List.toArray [Value.bool false]) nm2) :: rest)) N7 (by tb_rel)); (try dsimp only); (try k_fold))
  k_steps
  all_goals (refine' hret _ _ _ _ ?e1 ?e2 ?e3; (case e1 => k_asm); (case e2 => exact cb_drop (news := ((dsg, sightO h1 h2 h3 k1 k2 k3 lm lo j _) :: (lo, listOf ms.toArray nm) :: (lm, listOf (List.toArray [Value.bool false]) nm2) :: rest)) (by k_asm) (by tb_rel)); (case e3 => exact ⟨rfl, nm, _, rfl⟩))
theorem step_trD0 (w : World) (rest : List (Addr × Obj)) (sg dsg lm lo vd : Addr) (h1 h2 h3 : Int) (k1 k2 k3 : Tok) (k : Int) (t : Tok) (ms : List Value) (st : List Int) (nm nm2 : Nat) (v : Value) (l : Addr) (m0 : (sg, instObj 535 dsg) ∈ rest) (his : IntsAre ms st) (hz : ms.length ≤ 100) (x1 : ∀ p ∈ rest, p.1 ≠ dsg) (x2 : ∀ p ∈ rest, p.1 ≠ lo) (x3 : ∀ p ∈ rest, p.1 ≠ lm) (y1 : dsg ≠ lo) (y2 : dsg ≠ lm) (y3 : lo ≠ lm) (ho : OpAt rest v (Str.ofString "Tr") l) (x : Value) (j : Int) (n9 : Nat) (hl : (l, listOf [x].toArray n9) ∈ rest) (hd : DecAt rest x j 0) : Ctr w 532 6 [.ref sg, v, .ref vd] ((dsg, sightO h1 h2 h3 k1 k2 k3 lm lo k t) :: (lo, listOf ms.toArray nm) :: (lm, listOf (List.toArray [Value.bool false]) nm2) :: rest) (fun r' n' => Value.none = r' ∧ ∃ nx t2, ((dsg, sightO h1 h2 h3 k1 k2 k3 lm lo j t2) :: (lo, listOf ms.toArray nx) :: (lm, listOf (List.toArray [Value.bool false]) nm2) :: rest) = n') := by
  unfold Ctr
  k_fill
  k_with_none
  have ho' := ho
  obtain ⟨a, da, g1, j1, t1, g2, j2, c9, ev, m1, m2⟩ := ho'
  subst ev
  have hd9 := hd
  obtain ⟨b9, db9, g11, j11, t11, g12, j12, t12, c19, ev9, mm1, mm2⟩ := hd
  subst ev9
  intros; rename_i hret
  refine (let A9 : Around := _; (?_ : wpAny _ A9 _ _ _ _))
  refine wpAny_call ?_
  k_dflt (refine' code_def ?k1 ?k2 ?k3 ?k4 ?k5 ?kA ?kF ?kK ?k6 ?k7 ?k8 ?k9 ?kB ?_ ?c2 ?c3 ?c4 ?c5; (case kA => exact rfl); (case kF => exact rfl); (case kK => first | assumption | exact rfl); (case k1 => k_asm); (case k2 => k_asm); (case k3 => k_asm); (case k4 => k_asm); (case k5 => k_asm); (case k6 => k_is); (case k7 => k_is); (case k8 => ktr_room); (case k9 => first | exact BindsTo.of_eq rfl | exact binds_K (by k_in) rfl (by k_is) rfl rfl rfl); (case c5 => decide); (case kB => exact locs rfl); (case c2 => exact rfl); (case c3 => exact rfl); (case c4 => exact rfl); k_whole; intro g' L' h' FG' F' N' B' X' T'; (try dsimp only); (try k_lift B'); (try k_fold))
  refine (let e9 : Env := _; (?_ : wpAny _ (Around.deeper _ e9) (execs _ e9) _ _ _))
  refine (let B9 : Around := _; (?_ : wpAny _ B9 _ _ _ _))
  (rename Fr _ _ _ _ => lF)
  replace lF := fr_fold [((Str.ofString "self"), .ref sg), ((Str.ofString "operation"), .ref a), ((Str.ofString "visible"), .ref vd)] lF (by tb_start)
  obtain ⟨u, lF⟩ := lF
  dsimp only [kstB] at lF
  k_with_none
  k_with "subscriptTail Attribute" => ((k_dflt (refine kba_turn (value' := PySem.Expr.Name (PySem.Str.ofString "_") ⟨0, 0, 0, 0⟩) (fun _ => rfl) ?_)); k_dflt (refine' item_L ?iN ?im ?i0 ?i1 ?i2 ?_ ?i3 ?i4); (case iN => k_asm); (case im => k_mem); (case i0 => decide); (case i1 => decide); (case i2 => exact rfl); (case i3 => with_unfolding_all rfl); (case i4 => intro _; with_unfolding_all rfl))
  k_with "call builtin:len" => (k_dflt (refine' len_L ?vN ?vm ?vz ?_); (case vN => k_asm); (case vm => k_mem); (case vz => exact Nat.le_of_ble_eq_true rfl); intro t9 tk9; (try dsimp only [List.length]))
  k_with "call!" => ((with_reducible show wpAny _ _ (call (Value.ref 279) _) _ _ _); k_dflt (refine' Ctr.use ?kC ?k1 ?k2 ?k3 ?k4 ?k5 ?kK ?kd ?ku ?_); (case k4 => k_asm); (case kC => k_dflt (exact num_dec w _ _ _ _ (hd9.sub (by tb_rel)))); (case k1 => k_asm); (case k2 => k_asm); (case k3 => k_asm); (case k5 => k_asm); (case kK => first | exact rfl | assumption); (case kd => ktr_room); (case ku => ktr_units); intro r9 n9 h9 tk9 F9 N9 p9; (obtain ⟨e8, e9⟩ := p9; subst e8; subst e9); (try dsimp only); (try k_fold))
  k_with "call!" => ((with_reducible show wpAny _ _ (call (Value.ref 173) _) _ _ _); k_dflt (refine' Ctr.use ?kC ?k1 ?k2 ?k3 ?k4 ?k5 ?kK ?kd ?ku ?_); (case k4 => k_asm); (case kC => k_dflt (exact dof_dec w _ _ _ _ (hd9.sub (by tb_rel)))); (case k1 => k_asm); (case k2 => k_asm); (case k3 => k_asm); (case k5 => k_asm); (case kK => first | exact rfl | assumption); (case kd => ktr_room); (case ku => ktr_units); intro r9 n9 h9 tk9 F9 N9 p9; (obtain ⟨e8, e9⟩ := p9; subst e8; subst e9); (try dsimp only); (try k_fold))
  k_with "call!" => ((with_reducible show wpAny _ _ (call (Value.ref 117) _) _ _ _); k_dflt (refine' Ctr.use ?kC ?k1 ?k2 ?k3 ?k4 ?k5 ?kK ?kd ?ku ?_); (case k4 => k_asm); (case kC => k_dflt (exact whole_0 w _ _ _ (hd9.sub (by tb_rel)))); (case k1 => k_asm); (case k2 => k_asm); (case k3 => k_asm); (case k5 => k_asm); (case kK => first | exact rfl | assumption); (case kd => ktr_room); (case ku => ktr_units); intro r9 n9 h9 tk9 F9 N9 p9; (obtain ⟨e8, e9⟩ := p9; subst e8; subst e9); (try dsimp only); (try k_fold))
  k_with "call!" => ((with_reducible show wpAny _ _ (call (Value.ref 124) _) _ _ _); k_dflt (refine' Ctr.use ?kC ?k1 ?k2 ?k3 ?k4 ?k5 ?kK ?kd ?ku ?_); (case k4 => k_asm); (case kC => k_dflt (exact floor_ok w _ _ _ (hd9.sub (by tb_rel)))); (case k1 => k_asm); (case k2 => k_asm); (case k3 => k_asm); (case k5 => k_asm); (case kK => first | exact rfl | assumption); (case kd => ktr_room); (case ku => ktr_units); intro r7 n7 h7 tk7 F7 N7 p7; (obtain ⟨⟨t7, e8⟩, e9⟩ := p7; subst e8; subst e9); (try dsimp only); (try k_fold))
  k_steps
  all_goals (refine' hret _ _ _ _ ?e1 ?e2 ?e3; (case e1 => k_asm); (case e2 => exact cb_drop (news := ((dsg, sightO h1 h2 h3 k1 k2 k3 lm lo j _) :: (lo, listOf ms.toArray nm) :: (lm, listOf (List.toArray [Value.bool false]) nm2) :: rest)) (by k_asm) (by tb_rel)); (case e3 => exact ⟨rfl, nm, _, rfl⟩))
theorem step_trD1 (w : World) (rest : List (Addr × Obj)) (sg dsg lm lo vd : Addr) (h1 h2 h3 : Int) (k1 k2 k3 : Tok) (k : Int) (t : Tok) (ms : List Value) (st : List Int) (nm nm2 : Nat) (v : Value) (l : Addr) (m0 : (sg, instObj 535 dsg) ∈ rest) (his : IntsAre ms st) (hz : ms.length ≤ 100) (x1 : ∀ p ∈ rest, p.1 ≠ dsg) (x2 : ∀ p ∈ rest, p.1 ≠ lo) (x3 : ∀ p ∈ rest, p.1 ≠ lm) (y1 : dsg ≠ lo) (y2 : dsg ≠ lm) (y3 : lo ≠ lm) (ho : OpAt rest v (Str.ofString "Tr") l) (x : Value) (j : Int) (n9 : Nat) (hl : (l, listOf [x].toArray n9) ∈ rest) (hd : DecAt rest x j 1) : Ctr w 532 6 [.ref sg, v, .ref vd] ((dsg, sightO h1 h2 h3 k1 k2 k3 lm lo k t) :: (lo, listOf ms.toArray nm) :: (lm, listOf (List.toArray [Value.bool false]) nm2) :: rest) (fun r' n' => Value.none = r' ∧ ∃ nx t2, ((dsg, sightO h1 h2 h3 k1 k2 k3 lm lo k t2) :: (lo, listOf ms.toArray nx) :: (lm, listOf (List.toArray [Value.bool false]) nm2) :: rest) = n') := by
  unfold Ctr
  k_fill
  k_with_none
  have ho' := ho
  obtain ⟨a, da, g1, j1, t1, g2, j2, c9, ev, m1, m2⟩ := ho'
  subst ev
  have hd9 := hd
  obtain ⟨b9, db9, g11, j11, t11, g12, j12, t12, c19, ev9, mm1, mm2⟩ := hd
  subst ev9
  intros; rename_i hret
  refine (let A9 : Around := _; (?_ : wpAny _ A9 _ _ _ _))
  refine wpAny_call ?_
  k_dflt (refine' code_def ?k1 ?k2 ?k3 ?k4 ?k5 ?kA ?kF ?kK ?k6 ?k7 ?k8 ?k9 ?kB ?_ ?c2 ?c3 ?c4 ?c5; (case kA => exact rfl); (case kF => exact rfl); (case kK => first | assumption | exact rfl); (case k1 => k_asm); (case k2 => k_asm); (case k3 => k_asm); (case k4 => k_asm); (case k5 => k_asm); (case k6 => k_is); (case k7 => k_is); (case k8 => ktr_room); (case k9 => first | exact BindsTo.of_eq rfl | exact binds_K (by k_in) rfl (by k_is) rfl rfl rfl); (case c5 => decide); (case kB => exact locs rfl); (case c2 => exact rfl); (case c3 => exact rfl); (case c4 => exact rfl); k_whole; intro g' L' h' FG' F' N' B' X' T'; (try dsimp only); (try k_lift B'); (try k_fold))
  refine (let e9 : Env := _; (?_ : wpAny _ (Around.deeper _ e9) (execs _ e9) _ _ _))
  refine (let B9 : Around := _; (?_ : wpAny _ B9 _ _ _ _))
  (rename Fr _ _ _ _ => lF)
  replace lF := fr_fold [((Str.ofString "self"), .ref sg), ((Str.ofString "operation"), .ref a), ((Str.ofString "visible"), .ref vd)] lF (by tb_start)
  obtain ⟨u, lF⟩ := lF
  dsimp only [kstB] at lF
  k_with_none
  k_with "subscriptTail Attribute" => ((k_dflt (refine kba_turn (value' := PySem.Expr.Name (PySem.Str.ofString "_") ⟨0, 0, 0, 0⟩) (fun _ => rfl) ?_)); k_dflt (refine' item_L ?iN ?im ?i0 ?i1 ?i2 ?_ ?i3 ?i4); (case iN => k_asm); (case im => k_mem); (case i0 => decide); (case i1 => decide); (case i2 => exact rfl); (case i3 => with_unfolding_all rfl); (case i4 => intro _; with_unfolding_all rfl))
  k_with "call builtin:len" => (k_dflt (refine' len_L ?vN ?vm ?vz ?_); (case vN => k_asm); (case vm => k_mem); (case vz => exact Nat.le_of_ble_eq_true rfl); intro t9 tk9; (try dsimp only [List.length]))
  k_with "call!" => ((with_reducible show wpAny _ _ (call (Value.ref 279) _) _ _ _); k_dflt (refine' Ctr.use ?kC ?k1 ?k2 ?k3 ?k4 ?k5 ?kK ?kd ?ku ?_); (case k4 => k_asm); (case kC => k_dflt (exact num_dec w _ _ _ _ (hd9.sub (by tb_rel)))); (case k1 => k_asm); (case k2 => k_asm); (case k3 => k_asm); (case k5 => k_asm); (case kK => first | exact rfl | assumption); (case kd => ktr_room); (case ku => ktr_units); intro r9 n9 h9 tk9 F9 N9 p9; (obtain ⟨e8, e9⟩ := p9; subst e8; subst e9); (try dsimp only); (try k_fold))
  k_with "call!" => ((with_reducible show wpAny _ _ (call (Value.ref 173) _) _ _ _); k_dflt (refine' Ctr.use ?kC ?k1 ?k2 ?k3 ?k4 ?k5 ?kK ?kd ?ku ?_); (case k4 => k_asm); (case kC => k_dflt (exact dof_dec w _ _ _ _ (hd9.sub (by tb_rel)))); (case k1 => k_asm); (case k2 => k_asm); (case k3 => k_asm); (case k5 => k_asm); (case kK => first | exact rfl | assumption); (case kd => ktr_room); (case ku => ktr_units); intro r9 n9 h9 tk9 F9 N9 p9; (obtain ⟨e8, e9⟩ := p9; subst e8; subst e9); (try dsimp only); (try k_fold))
  k_with "call!" => ((with_reducible show wpAny _ _ (call (Value.ref 117) _) _ _ _); k_dflt (refine' Ctr.use ?kC ?k1 ?k2 ?k3 ?k4 ?k5 ?kK ?kd ?ku ?_); (case k4 => k_asm); (case kC => k_dflt (exact whole_1 w _ _ _ (hd9.sub (by tb_rel)))); (case k1 => k_asm); (case k2 => k_asm); (case k3 => k_asm); (case k5 => k_asm); (case kK => first | exact rfl | assumption); (case kd => ktr_room); (case ku => ktr_units); intro r9 n9 h9 tk9 F9 N9 p9; (obtain ⟨e8, e9⟩ := p9; subst e8; subst e9); (try dsimp only); (try k_fold))
  k_with "call!" => ((with_reducible show wpAny _ _ (call (Value.ref 124) _) _ _ _); k_dflt (refine' Ctr.use ?kC ?k1 ?k2 ?k3 ?k4 ?k5 ?kK ?kd ?ku ?_); (case k4 => k_asm); (case kC => k_dflt (exact floor_ok w _ _ _ (hd9.sub (by tb_rel)))); (case k1 => k_asm); (case k2 => k_asm); (case k3 => k_asm); (case k5 => k_asm); (case kK => first | exact rfl | assumption); (case kd => ktr_room); (case ku => ktr_units); intro r7 n7 h7 tk7 F7 N7 p7; (obtain ⟨⟨t7, e8⟩, e9⟩ := p7; subst e8; subst e9); (try dsimp only); (try k_fold))
  k_steps
  all_goals (refine' hret _ _ _ _ ?e1 ?e2 ?e3; (case e1 => k_asm); (case e2 => exact cb_drop (news := ((dsg, sightO h1 h2 h3 k1 k2 k3 lm lo k _) :: (lo, listOf ms.toArray nm) :: (lm, listOf (List.toArray [Value.bool false]) nm2) :: rest)) (by k_asm) (by tb_rel)); (case e3 => exact ⟨rfl, nm, _, rfl⟩))
theorem step_open (w : World) (rest : List (Addr × Obj)) (sg dsg lm lo vd : Addr) (h1 h2 h3 : Int) (k1 k2 k3 : Tok) (k : Int) (t : Tok) (ms : List Value) (st : List Int) (nm nm2 : Nat) (v : Value) (l : Addr) (m0 : (sg, instObj 535 dsg) ∈ rest) (his : IntsAre ms st) (hz : ms.length ≤ 100) (x1 : ∀ p ∈ rest, p.1 ≠ dsg) (x2 : ∀ p ∈ rest, p.1 ≠ lo) (x3 : ∀ p ∈ rest, p.1 ≠ lm) (y1 : dsg ≠ lo) (y2 : dsg ≠ lm) (y3 : lo ≠ lm) (ho : OpAt rest v (Str.ofString "BDC") l) (x8 x9 : Value) (ov : Obj) (n1 : Nat) (hl : (l, listOf [x8, x9].toArray n1) ∈ rest) (hn1 : NameAt rest x8 (Str.ofString "OC")) (hn2 : NameAt rest x9 (Str.ofString "A")) (hv : (vd, ov) ∈ rest) (hd : ov.IsDictOf (PySem.strKind PySem.Challenge.rw_qd0128_01.prog w) [(Str.ofString "A", .bool false)]) (lov : (vd == sysModules) = false) : Ctr w 532 6 [.ref sg, v, .ref vd] ((dsg, sightO h1 h2 h3 k1 k2 k3 lm lo k t) :: (lo, listOf ms.toArray nm) :: (lm, listOf (List.toArray []) nm2) :: rest) (fun r' n' => Value.none = r' ∧ ∃ nx, ((dsg, sightO h1 h2 h3 k1 k2 k3 lm lo k t) :: (lo, listOf ms.toArray nm) :: (lm, listOf (List.toArray [Value.bool false]) nx) :: rest) = n') := by
  unfold Ctr
  k_fill
  k_with_none
  have ho' := ho
  obtain ⟨a, da, g1, j1, t1, g2, j2, c9, ev, m1, m2⟩ := ho'
  subst ev
  intros; rename_i hret
  refine (let A9 : Around := _; (?_ : wpAny _ A9 _ _ _ _))
  refine wpAny_call ?_
  k_dflt (refine' code_def ?k1 ?k2 ?k3 ?k4 ?k5 ?kA ?kF ?kK ?k6 ?k7 ?k8 ?k9 ?kB ?_ ?c2 ?c3 ?c4 ?c5; (case kA => exact rfl); (case kF => exact rfl); (case kK => first | assumption | exact rfl); (case k1 => k_asm); (case k2 => k_asm); (case k3 => k_asm); (case k4 => k_asm); (case k5 => k_asm); (case k6 => k_is); (case k7 => k_is); (case k8 => ktr_room); (case k9 => first | exact BindsTo.of_eq rfl | exact binds_K (by k_in) rfl (by k_is) rfl rfl rfl); (case c5 => decide); (case kB => exact locs rfl); (case c2 => exact rfl); (case c3 => exact rfl); (case c4 => exact rfl); k_whole; intro g' L' h' FG' F' N' B' X' T'; (try dsimp only); (try k_lift B'); (try k_fold))
  refine (let e9 : Env := _; (?_ : wpAny _ (Around.deeper _ e9) (execs _ e9) _ _ _))
  refine (let B9 : Around := _; (?_ : wpAny _ B9 _ _ _ _))
  (rename Fr _ _ _ _ => lF)
  replace lF := fr_fold [((Str.ofString "self"), .ref sg), ((Str.ofString "operation"), .ref a), ((Str.ofString "visible"), .ref vd)] lF (by tb_start)
  obtain ⟨u, lF⟩ := lF
  dsimp only [kstB] at lF
  k_with_none
  k_with "call!" => ((with_reducible show wpAny _ _ (call (Value.ref 504) _) _ _ _); k_dflt (refine' Ctr.use ?kC ?k1 ?k2 ?k3 ?k4 ?k5 ?kK ?kd ?ku ?_); (case k4 => k_asm); (case kC => k_dflt (exact isopen_ok w _ _ x8 x9 l _ ov n1 (ho.sub (by tb_rel)) (by k_mem) (hn1.sub (by tb_rel)) (hn2.sub (by tb_rel)) (by k_mem) hd lov)); (case k1 => k_asm); (case k2 => k_asm); (case k3 => k_asm); (case k5 => k_asm); (case kK => first | exact rfl | assumption); (case kd => ktr_room); (case ku => ktr_units); intro r9 n9 h9 tk9 F9 N9 p9; (obtain ⟨e8, e9⟩ := p9; subst e8; subst e9); (try dsimp only); (try k_fold))
  k_steps
  all_goals (refine' hret _ _ _ _ ?e1 ?e2 ?e3; (case e1 => k_asm); (case e2 => k_asm); (case e3 => exact ⟨rfl, nm2 + 1, rfl⟩))
theorem step_close (w : World) (rest : List (Addr × Obj)) (sg dsg lm lo vd : Addr) (h1 h2 h3 : Int) (k1 k2 k3 : Tok) (k : Int) (t : Tok) (ms : List Value) (st : List Int) (nm nm2 : Nat) (v : Value) (l : Addr) (m0 : (sg, instObj 535 dsg) ∈ rest) (his : IntsAre ms st) (hz : ms.length ≤ 100) (x1 : ∀ p ∈ rest, p.1 ≠ dsg) (x2 : ∀ p ∈ rest, p.1 ≠ lo) (x3 : ∀ p ∈ rest, p.1 ≠ lm) (y1 : dsg ≠ lo) (y2 : dsg ≠ lm) (y3 : lo ≠ lm) (ho : OpAt rest v (Str.ofString "EMC") l)  : Ctr w 532 6 [.ref sg, v, .ref vd] ((dsg, sightO h1 h2 h3 k1 k2 k3 lm lo k t) :: (lo, listOf ms.toArray nm) :: (lm, listOf (List.toArray [Value.bool false]) nm2) :: rest) (fun r' n' => Value.none = r' ∧ ∃ nx, ((dsg, sightO h1 h2 h3 k1 k2 k3 lm lo k t) :: (lo, listOf ms.toArray nm) :: (lm, listOf (List.toArray []) nx) :: rest) = n') := by
  unfold Ctr
  k_fill
  k_with_none
  have ho' := ho
  obtain ⟨a, da, g1, j1, t1, g2, j2, c9, ev, m1, m2⟩ := ho'
  subst ev
  intros; rename_i hret
  refine (let A9 : Around := _; (?_ : wpAny _ A9 _ _ _ _))
  refine wpAny_call ?_
  k_dflt (refine' code_def ?k1 ?k2 ?k3 ?k4 ?k5 ?kA ?kF ?kK ?k6 ?k7 ?k8 ?k9 ?kB ?_ ?c2 ?c3 ?c4 ?c5; (case kA => exact rfl); (case kF => exact rfl); (case kK => first | assumption | exact rfl); (case k1 => k_asm); (case k2 => k_asm); (case k3 => k_asm); (case k4 => k_asm); (case k5 => k_asm); (case k6 => k_is); (case k7 => k_is); (case k8 => ktr_room); (case k9 => first | exact BindsTo.of_eq rfl | exact binds_K (by k_in) rfl (by k_is) rfl rfl rfl); (case c5 => decide); (case kB => exact locs rfl); (case c2 => exact rfl); (case c3 => exact rfl); (case c4 => exact rfl); k_whole; intro g' L' h' FG' F' N' B' X' T'; (try dsimp only); (try k_lift B'); (try k_fold))
  refine (let e9 : Env := _; (?_ : wpAny _ (Around.deeper _ e9) (execs _ e9) _ _ _))
  refine (let B9 : Around := _; (?_ : wpAny _ B9 _ _ _ _))
  (rename Fr _ _ _ _ => lF)
  replace lF := fr_fold [((Str.ofString "self"), .ref sg), ((Str.ofString "operation"), .ref a), ((Str.ofString "visible"), .ref vd)] lF (by tb_start)
  obtain ⟨u, lF⟩ := lF
  dsimp only [kstB] at lF
  k_with_none
  k_with "compareOp NotEq ref ref" => (k_dflt (refine' ne_nil_L ?wN ?wl ?wb ?wu ?wt ?_); (case wN => k_asm); (case wl => k_mem); (case wb => k_mem); (case wu => ktr_units); (case wt => rfl))
  k_steps
  all_goals (refine' hret _ _ _ _ ?e1 ?e2 ?e3; (case e1 => k_asm); (case e2 => exact cb_drop (news := ((dsg, sightO h1 h2 h3 k1 k2 k3 lm lo k t) :: (lo, listOf ms.toArray nm) :: (lm, listOf (List.toArray []) (nm2 + 1)) :: rest)) (by k_asm) (by tb_rel)); (case e3 => exact ⟨rfl, nm2 + 1, rfl⟩))
section
set_option hygiene false in
local macro_rules | `(tactic| walk_at "compareOp In str ref") => `(tactic| k_extra "compareOp In str ref")
set_option hygiene false in
local macro_rules | `(tactic| walk_at "compareOp NotIn str ref") => `(tactic| k_extra "compareOp NotIn str ref")
-- part Unseen3
theorem unseen_low (w : World) (news : List (Addr × Obj)) (v : Value) (l : Addr) (k : Int) (tk : Tok) (ho : OpAt news v (Str.ofString "Tj") l) (h4 : k < 4) (hn : k ≠ 3) : Ctr w 511 4 [v, .int k tk] news (fun r' n' => ∃ pre lf nn v1 v2, pre ++ news = n' ∧ Value.ref lf = r' ∧ (lf, listOf [v1, v, v2].toArray nn) ∈ pre ∧ OpK pre v1 (.trI (otherMode k)) ∧ OpK pre v2 (.trI k) ∧ Apart pre news) := by
  unfold Ctr
  k_fill
  k_with_none
  have ho' := ho
  obtain ⟨a, da, h1, k1, t1, h2, k2, c, ev, m1, m2⟩ := ho'
  subst ev
  intros; rename_i hret
  refine (let A9 : Around := _; (?_ : wpAny _ A9 _ _ _ _))
  refine wpAny_call ?_
  k_dflt (refine' code_def ?k1 ?k2 ?k3 ?k4 ?k5 ?kA ?kF ?kK ?k6 ?k7 ?k8 ?k9 ?kB ?_ ?c2 ?c3 ?c4 ?c5; (case kA => exact rfl); (case kF => exact rfl); (case kK => first | assumption | exact rfl); (case k1 => k_asm); (case k2 => k_asm); (case k3 => k_asm); (case k4 => k_asm); (case k5 => k_asm); (case k6 => k_is); (case k7 => k_is); (case k8 => ktr_room); (case k9 => first | exact BindsTo.of_eq rfl | exact binds_K (by k_in) rfl (by k_is) rfl rfl rfl); (case c5 => decide); (case kB => exact locs rfl); (case c2 => exact rfl); (case c3 => exact rfl); (case c4 => exact rfl); k_whole; intro g' L' h' FG' F' N' B' X' T'; (try dsimp only); (try k_lift B'); (try k_fold))
  refine (let e9 : Env := _; (?_ : wpAny _ (Around.deeper _ e9) (execs _ e9) _ _ _))
  refine (let B9 : Around := _; (?_ : wpAny _ B9 _ _ _ _))
  (rename Fr _ _ _ _ => lF)
  replace lF := fr_fold [((Str.ofString "operation"), .ref a), ((Str.ofString "mode"), .int k tk)] lF (by tb_start)
  obtain ⟨u, lF⟩ := lF
  dsimp only [kstB] at lF
  k_with_none
  k_with "compareOp In str ref" => ((with_reducible show wpAny _ _ (compareOp _ _ (Value.ref 406)) _ _ _); k_dflt (refine' in_tup_K ?yF ?yX (tups_look w).1.1 path_are rfl ?_); (case yF => k_asm); (case yX => k_in))
  k_with "compareOp NotIn str ref" => ((with_reducible show wpAny _ _ (compareOp _ _ (Value.ref 406)) _ _ _); k_dflt (refine' notin_tup_K ?yF ?yX (tups_look w).1.1 path_are rfl ?_); (case yF => k_asm); (case yX => k_in))
  k_with "compareOp In str ref" => ((with_reducible show wpAny _ _ (compareOp _ _ (Value.ref 407)) _ _ _); k_dflt (refine' in_tup_K ?yF ?yX (tups_look w).1.2.1 other_are rfl ?_); (case yF => k_asm); (case yX => k_in))
  k_with "compareOp NotIn str ref" => ((with_reducible show wpAny _ _ (compareOp _ _ (Value.ref 407)) _ _ _); k_dflt (refine' notin_tup_K ?yF ?yX (tups_look w).1.2.1 other_are rfl ?_); (case yF => k_asm); (case yX => k_in))
  k_with "compareOp In str ref" => ((with_reducible show wpAny _ _ (compareOp _ _ (Value.ref 408)) _ _ _); k_dflt (refine' in_tup_K ?yF ?yX (tups_look w).1.2.2 shown_are rfl ?_); (case yF => k_asm); (case yX => k_in))
  k_with "compareOp NotIn str ref" => ((with_reducible show wpAny _ _ (compareOp _ _ (Value.ref 408)) _ _ _); k_dflt (refine' notin_tup_K ?yF ?yX (tups_look w).1.2.2 shown_are rfl ?_); (case yF => k_asm); (case yX => k_in))
  k_with "call!" => ((with_reducible show wpAny _ _ (call (Value.ref 401) _) _ _ _); k_dflt (refine' Ctr.use ?kC ?k1 ?k2 ?k3 ?k4 ?k5 ?kK ?kd ?ku ?_); (case k4 => k_asm); (case kC => k_dflt (exact op_mk w _ _ _ _)); (case k1 => k_asm); (case k2 => k_asm); (case k3 => k_asm); (case k5 => k_asm); (case kK => first | exact rfl | assumption); (case kd => ktr_room); (case ku => ktr_units); intro ra na ha tka Fa Na pa; (obtain ⟨prea, e8, hna, haa⟩ := pa; subst e8); (try dsimp only); (try k_fold))
  k_with "call!" => ((have q9 := haa); clear q9; (with_reducible show wpAny _ _ (call (Value.ref 401) _) _ _ _); k_dflt (refine' Ctr.use ?kC ?k1 ?k2 ?k3 ?k4 ?k5 ?kK ?kd ?ku ?_); (case k4 => k_asm); (case kC => k_dflt (exact op_mk w _ _ _ _)); (case k1 => k_asm); (case k2 => k_asm); (case k3 => k_asm); (case k5 => k_asm); (case kK => first | exact rfl | assumption); (case kd => ktr_room); (case ku => ktr_units); intro rb nb hb tkb Fb Nb pb; (obtain ⟨preb, e8, hnb, hab⟩ := pb; subst e8); (try dsimp only); (try k_fold))
  have h37 := any37 (k := k) (by omega) (by omega)
  k_steps
  · refine' hret _ _ _ _ ?e1 ?e2 ?e3
    case e1 => k_asm
    case e2 => k_asm
    case e3 => exact ⟨_, _, _, ra, rb, led3, rfl, List.Mem.head _, (by rw [otherMode, if_pos h4]; exact .mkI (hna.sub (by tb_rel)) (by k_mem)), .mkI (hnb.sub (by tb_rel)) (by k_mem), Apart.cons (by first | exact NeAll.to (NeAll.all (by with_reducible assumption) (by kt_at_notin)) | exact NeAll.to (NeAll.lt (by with_reducible assumption) (by kt_at_notin))) (Apart.append (hab.mono (by tb_rel)) (Apart.cons (by first | exact NeAll.to (NeAll.all (by with_reducible assumption) (by kt_at_notin)) | exact NeAll.to (NeAll.lt (by with_reducible assumption) (by kt_at_notin))) (Apart.append (haa.mono (by tb_rel)) (Apart.cons (by first | exact NeAll.to (NeAll.all (by with_reducible assumption) (by kt_at_notin)) | exact NeAll.to (NeAll.lt (by with_reducible assumption) (by kt_at_notin))) (Apart.cons (by first | exact NeAll.to (NeAll.all (by with_reducible assumption) (by kt_at_notin)) | exact NeAll.to (NeAll.lt (by with_reducible assumption) (by kt_at_notin))) Apart.nil)))))⟩
theorem unseen_high (w : World) (news : List (Addr × Obj)) (v : Value) (l : Addr) (k : Int) (tk : Tok) (ho : OpAt news v (Str.ofString "Tj") l) (h4 : 4 ≤ k) (hn : k ≠ 7) : Ctr w 511 4 [v, .int k tk] news (fun r' n' => ∃ pre lf nn v1 v2, pre ++ news = n' ∧ Value.ref lf = r' ∧ (lf, listOf [v1, v, v2].toArray nn) ∈ pre ∧ OpK pre v1 (.trI (otherMode k)) ∧ OpK pre v2 (.trI k) ∧ Apart pre news) := by
  unfold Ctr
  k_fill
  k_with_none
  have ho' := ho
  obtain ⟨a, da, h1, k1, t1, h2, k2, c, ev, m1, m2⟩ := ho'
  subst ev
  intros; rename_i hret
  refine (let A9 : Around := _; (?_ : wpAny _ A9 _ _ _ _))
  refine wpAny_call ?_
  k_dflt (refine' code_def ?k1 ?k2 ?k3 ?k4 ?k5 ?kA ?kF ?kK ?k6 ?k7 ?k8 ?k9 ?kB ?_ ?c2 ?c3 ?c4 ?c5; (case kA => exact rfl); (case kF => exact rfl); (case kK => first | assumption | exact rfl); (case k1 => k_asm); (case k2 => k_asm); (case k3 => k_asm); (case k4 => k_asm); (case k5 => k_asm); (case k6 => k_is); (case k7 => k_is); (case k8 => ktr_room); (case k9 => first | exact BindsTo.of_eq rfl | exact binds_K (by k_in) rfl (by k_is) rfl rfl rfl); (case c5 => decide); (case kB => exact locs rfl); (case c2 => exact rfl); (case c3 => exact rfl); (case c4 => exact rfl); k_whole; intro g' L' h' FG' F' N' B' X' T'; (try dsimp only); (try k_lift B'); (try k_fold))
  refine (let e9 : Env := _; (?_ : wpAny _ (Around.deeper _ e9) (execs _ e9) _ _ _))
  refine (let B9 : Around := _; (?_ : wpAny _ B9 _ _ _ _))
  (rename Fr _ _ _ _ => lF)
  replace lF := fr_fold [((Str.ofString "operation"), .ref a), ((Str.ofString "mode"), .int k tk)] lF (by tb_start)
  obtain ⟨u, lF⟩ := lF
  dsimp only [kstB] at lF
  k_with_none
  k_with "compareOp In str ref" => ((with_reducible show wpAny _ _ (compareOp _ _ (Value.ref 406)) _ _ _); k_dflt (refine' in_tup_K ?yF ?yX (tups_look w).1.1 path_are rfl ?_); (case yF => k_asm); (case yX => k_in))
  k_with "compareOp NotIn str ref" => ((with_reducible show wpAny _ _ (compareOp _ _ (Value.ref 406)) _ _ _); k_dflt (refine' notin_tup_K ?yF ?yX (tups_look w).1.1 path_are rfl ?_); (case yF => k_asm); (case yX => k_in))
  k_with "compareOp In str ref" => ((with_reducible show wpAny _ _ (compareOp _ _ (Value.ref 407)) _ _ _); k_dflt (refine' in_tup_K ?yF ?yX (tups_look w).1.2.1 other_are rfl ?_); (case yF => k_asm); (case yX => k_in))
  k_with "compareOp NotIn str ref" => ((with_reducible show wpAny _ _ (compareOp _ _ (Value.ref 407)) _ _ _); k_dflt (refine' notin_tup_K ?yF ?yX (tups_look w).1.2.1 other_are rfl ?_); (case yF => k_asm); (case yX => k_in))
  k_with "compareOp In str ref" => ((with_reducible show wpAny _ _ (compareOp _ _ (Value.ref 408)) _ _ _); k_dflt (refine' in_tup_K ?yF ?yX (tups_look w).1.2.2 shown_are rfl ?_); (case yF => k_asm); (case yX => k_in))
  k_with "compareOp NotIn str ref" => ((with_reducible show wpAny _ _ (compareOp _ _ (Value.ref 408)) _ _ _); k_dflt (refine' notin_tup_K ?yF ?yX (tups_look w).1.2.2 shown_are rfl ?_); (case yF => k_asm); (case yX => k_in))
  k_with "call!" => ((with_reducible show wpAny _ _ (call (Value.ref 401) _) _ _ _); k_dflt (refine' Ctr.use ?kC ?k1 ?k2 ?k3 ?k4 ?k5 ?kK ?kd ?ku ?_); (case k4 => k_asm); (case kC => k_dflt (exact op_mk w _ _ _ _)); (case k1 => k_asm); (case k2 => k_asm); (case k3 => k_asm); (case k5 => k_asm); (case kK => first | exact rfl | assumption); (case kd => ktr_room); (case ku => ktr_units); intro ra na ha tka Fa Na pa; (obtain ⟨prea, e8, hna, haa⟩ := pa; subst e8); (try dsimp only); (try k_fold))
  k_with "call!" => ((have q9 := haa); clear q9; (with_reducible show wpAny _ _ (call (Value.ref 401) _) _ _ _); k_dflt (refine' Ctr.use ?kC ?k1 ?k2 ?k3 ?k4 ?k5 ?kK ?kd ?ku ?_); (case k4 => k_asm); (case kC => k_dflt (exact op_mk w _ _ _ _)); (case k1 => k_asm); (case k2 => k_asm); (case k3 => k_asm); (case k5 => k_asm); (case kK => first | exact rfl | assumption); (case kd => ktr_room); (case ku => ktr_units); intro rb nb hb tkb Fb Nb pb; (obtain ⟨preb, e8, hnb, hab⟩ := pb; subst e8); (try dsimp only); (try k_fold))
  have h37 := any37 (k := k) (by omega) (by omega)
  k_steps
  · refine' hret _ _ _ _ ?e1 ?e2 ?e3
    case e1 => k_asm
    case e2 => k_asm
    case e3 => exact ⟨_, _, _, ra, rb, led3, rfl, List.Mem.head _, (by rw [otherMode, if_neg (by omega)]; exact .mkI (hna.sub (by tb_rel)) (by k_mem)), .mkI (hnb.sub (by tb_rel)) (by k_mem), Apart.cons (by first | exact NeAll.to (NeAll.all (by with_reducible assumption) (by kt_at_notin)) | exact NeAll.to (NeAll.lt (by with_reducible assumption) (by kt_at_notin))) (Apart.append (hab.mono (by tb_rel)) (Apart.cons (by first | exact NeAll.to (NeAll.all (by with_reducible assumption) (by kt_at_notin)) | exact NeAll.to (NeAll.lt (by with_reducible assumption) (by kt_at_notin))) (Apart.append (haa.mono (by tb_rel)) (Apart.cons (by first | exact NeAll.to (NeAll.all (by with_reducible assumption) (by kt_at_notin)) | exact NeAll.to (NeAll.lt (by with_reducible assumption) (by kt_at_notin))) (Apart.cons (by first | exact NeAll.to (NeAll.all (by with_reducible assumption) (by kt_at_notin)) | exact NeAll.to (NeAll.lt (by with_reducible assumption) (by kt_at_notin))) Apart.nil)))))⟩
end
end
section
set_option hygiene false in
local macro_rules | `(tactic| kt_at_method) => `(tactic| first | (apply NeAll.of; with_reducible assumption) | with_reducible apply NeAll.nil | (with_reducible apply NeAll.ofLt; simp only [AllLt, and_true]; with_reducible assumption) | ((with_reducible apply NeAll.cons); (focus k_ne); kt_at_method) | ((with_reducible apply NeAll.app); (focus kt_at_method); kt_at_method) | (apply NeAll.of; exact Apart.ne (by with_reducible assumption) (by k_mem)) | skip)
set_option hygiene false in
local macro_rules | `(tactic| walk_at "compareOp In str ref") => `(tactic| k_extra "compareOp In str ref")
set_option hygiene false in
local macro_rules | `(tactic| walk_at "compareOp NotIn str ref") => `(tactic| k_extra "compareOp NotIn str ref")
section
local macro_rules | `(tactic| walk_at "zz42") => `(tactic| skip)
-- part Unseen
theorem unseen_BDC (w : World) (news : List (Addr × Obj)) (v : Value) (l : Addr) (k : Int) (tk : Tok) (ho : OpAt news v (Str.ofString "BDC") l) : Ctr w 511 2 [v, .int k tk] news (fun r' n' => ∃ lf nn, Value.ref lf = r' ∧ (lf, listOf [v].toArray nn) :: news = n' ∧ (∀ p ∈ news, p.1 < lf)) := by
  unfold Ctr
  k_fill
  k_with_none
  have ho' := ho
  obtain ⟨a, da, h1, k1, t1, h2, k2, c, ev, m1, m2⟩ := ho'
  subst ev
  intros; rename_i hret
  refine (let A9 : Around := _; (?_ : wpAny _ A9 _ _ _ _))
  refine wpAny_call ?_
  k_dflt (refine' code_def ?k1 ?k2 ?k3 ?k4 ?k5 ?kA ?kF ?kK ?k6 ?k7 ?k8 ?k9 ?kB ?_ ?c2 ?c3 ?c4 ?c5; (case kA => exact rfl); (case kF => exact rfl); (case kK => first | assumption | exact rfl); (case k1 => k_asm); (case k2 => k_asm); (case k3 => k_asm); (case k4 => k_asm); (case k5 => k_asm); (case k6 => k_is); (case k7 => k_is); (case k8 => ktr_room); (case k9 => first | exact BindsTo.of_eq rfl | exact binds_K (by k_in) rfl (by k_is) rfl rfl rfl); (case c5 => decide); (case kB => exact locs rfl); (case c2 => exact rfl); (case c3 => exact rfl); (case c4 => exact rfl); k_whole; intro g' L' h' FG' F' N' B' X' T'; (try dsimp only); (try k_lift B'); (try k_fold))
  refine (let e9 : Env := _; (?_ : wpAny _ (Around.deeper _ e9) (execs _ e9) _ _ _))
  refine (let B9 : Around := _; (?_ : wpAny _ B9 _ _ _ _))
  (rename Fr _ _ _ _ => lF)
  replace lF := fr_fold [((Str.ofString "operation"), .ref a), ((Str.ofString "mode"), .int k tk)] lF (by tb_start)
  obtain ⟨u, lF⟩ := lF
  dsimp only [kstB] at lF
  k_with_none
  k_with "compareOp In str ref" => ((with_reducible show wpAny _ _ (compareOp _ _ (Value.ref 406)) _ _ _); k_dflt (refine' in_tup_K ?yF ?yX (tups_look w).1.1 path_are rfl ?_); (case yF => k_asm); (case yX => k_in))
  k_with "compareOp NotIn str ref" => ((with_reducible show wpAny _ _ (compareOp _ _ (Value.ref 406)) _ _ _); k_dflt (refine' notin_tup_K ?yF ?yX (tups_look w).1.1 path_are rfl ?_); (case yF => k_asm); (case yX => k_in))
  k_with "compareOp In str ref" => ((with_reducible show wpAny _ _ (compareOp _ _ (Value.ref 407)) _ _ _); k_dflt (refine' in_tup_K ?yF ?yX (tups_look w).1.2.1 other_are rfl ?_); (case yF => k_asm); (case yX => k_in))
  k_with "compareOp NotIn str ref" => ((with_reducible show wpAny _ _ (compareOp _ _ (Value.ref 407)) _ _ _); k_dflt (refine' notin_tup_K ?yF ?yX (tups_look w).1.2.1 other_are rfl ?_); (case yF => k_asm); (case yX => k_in))
  k_with "compareOp In str ref" => ((with_reducible show wpAny _ _ (compareOp _ _ (Value.ref 408)) _ _ _); k_dflt (refine' in_tup_K ?yF ?yX (tups_look w).1.2.2 shown_are rfl ?_); (case yF => k_asm); (case yX => k_in))
  k_with "compareOp NotIn str ref" => ((with_reducible show wpAny _ _ (compareOp _ _ (Value.ref 408)) _ _ _); k_dflt (refine' notin_tup_K ?yF ?yX (tups_look w).1.2.2 shown_are rfl ?_); (case yF => k_asm); (case yX => k_in))
  k_steps
  all_goals (refine' hret _ _ _ _ ?e1 ?e2 ?e3; (case e1 => k_asm); (case e2 => k_asm); (case e3 => exact ⟨_, _, rfl, rfl, by assumption⟩))
theorem unseen_Tr (w : World) (news : List (Addr × Obj)) (v : Value) (l : Addr) (k : Int) (tk : Tok) (ho : OpAt news v (Str.ofString "Tr") l) : Ctr w 511 2 [v, .int k tk] news (fun r' n' => ∃ lf nn, Value.ref lf = r' ∧ (lf, listOf [v].toArray nn) :: news = n' ∧ (∀ p ∈ news, p.1 < lf)) := by
  unfold Ctr
  k_fill
  k_with_none
  have ho' := ho
  obtain ⟨a, da, h1, k1, t1, h2, k2, c, ev, m1, m2⟩ := ho'
  subst ev
  intros; rename_i hret
  refine (let A9 : Around := _; (?_ : wpAny _ A9 _ _ _ _))
  refine wpAny_call ?_
  k_dflt (refine' code_def ?k1 ?k2 ?k3 ?k4 ?k5 ?kA ?kF ?kK ?k6 ?k7 ?k8 ?k9 ?kB ?_ ?c2 ?c3 ?c4 ?c5; (case kA => exact rfl); (case kF => exact rfl); (case kK => first | assumption | exact rfl); (case k1 => k_asm); (case k2 => k_asm); (case k3 => k_asm); (case k4 => k_asm); (case k5 => k_asm); (case k6 => k_is); (case k7 => k_is); (case k8 => ktr_room); (case k9 => first | exact BindsTo.of_eq rfl | exact binds_K (by k_in) rfl (by k_is) rfl rfl rfl); (case c5 => decide); (case kB => exact locs rfl); (case c2 => exact rfl); (case c3 => exact rfl); (case c4 => exact rfl); k_whole; intro g' L' h' FG' F' N' B' X' T'; (try dsimp only); (try k_lift B'); (try k_fold))
  refine (let e9 : Env := _; (?_ : wpAny _ (Around.deeper _ e9) (execs _ e9) _ _ _))
  refine (let B9 : Around := _; (?_ : wpAny _ B9 _ _ _ _))
  (rename Fr _ _ _ _ => lF)
  replace lF := fr_fold [((Str.ofString "operation"), .ref a), ((Str.ofString "mode"), .int k tk)] lF (by tb_start)
  obtain ⟨u, lF⟩ := lF
  dsimp only [kstB] at lF
  k_with_none
  k_with "compareOp In str ref" => ((with_reducible show wpAny _ _ (compareOp _ _ (Value.ref 406)) _ _ _); k_dflt (refine' in_tup_K ?yF ?yX (tups_look w).1.1 path_are rfl ?_); (case yF => k_asm); (case yX => k_in))
  k_with "compareOp NotIn str ref" => ((with_reducible show wpAny _ _ (compareOp _ _ (Value.ref 406)) _ _ _); k_dflt (refine' notin_tup_K ?yF ?yX (tups_look w).1.1 path_are rfl ?_); (case yF => k_asm); (case yX => k_in))
  k_with "compareOp In str ref" => ((with_reducible show wpAny _ _ (compareOp _ _ (Value.ref 407)) _ _ _); k_dflt (refine' in_tup_K ?yF ?yX (tups_look w).1.2.1 other_are rfl ?_); (case yF => k_asm); (case yX => k_in))
  k_with "compareOp NotIn str ref" => ((with_reducible show wpAny _ _ (compareOp _ _ (Value.ref 407)) _ _ _); k_dflt (refine' notin_tup_K ?yF ?yX (tups_look w).1.2.1 other_are rfl ?_); (case yF => k_asm); (case yX => k_in))
  k_with "compareOp In str ref" => ((with_reducible show wpAny _ _ (compareOp _ _ (Value.ref 408)) _ _ _); k_dflt (refine' in_tup_K ?yF ?yX (tups_look w).1.2.2 shown_are rfl ?_); (case yF => k_asm); (case yX => k_in))
  k_with "compareOp NotIn str ref" => ((with_reducible show wpAny _ _ (compareOp _ _ (Value.ref 408)) _ _ _); k_dflt (refine' notin_tup_K ?yF ?yX (tups_look w).1.2.2 shown_are rfl ?_); (case yF => k_asm); (case yX => k_in))
  k_steps
  all_goals (refine' hret _ _ _ _ ?e1 ?e2 ?e3; (case e1 => k_asm); (case e2 => k_asm); (case e3 => exact ⟨_, _, rfl, rfl, by assumption⟩))
theorem unseen_q (w : World) (news : List (Addr × Obj)) (v : Value) (l : Addr) (k : Int) (tk : Tok) (ho : OpAt news v (Str.ofString "q") l) : Ctr w 511 2 [v, .int k tk] news (fun r' n' => ∃ lf nn, Value.ref lf = r' ∧ (lf, listOf [v].toArray nn) :: news = n' ∧ (∀ p ∈ news, p.1 < lf)) := by
  unfold Ctr
  k_fill
  k_with_none
  have ho' := ho
  obtain ⟨a, da, h1, k1, t1, h2, k2, c, ev, m1, m2⟩ := ho'
  subst ev
  intros; rename_i hret
  refine (let A9 : Around := _; (?_ : wpAny _ A9 _ _ _ _))
  refine wpAny_call ?_
  k_dflt (refine' code_def ?k1 ?k2 ?k3 ?k4 ?k5 ?kA ?kF ?kK ?k6 ?k7 ?k8 ?k9 ?kB ?_ ?c2 ?c3 ?c4 ?c5; (case kA => exact rfl); (case kF => exact rfl); (case kK => first | assumption | exact rfl); (case k1 => k_asm); (case k2 => k_asm); (case k3 => k_asm); (case k4 => k_asm); (case k5 => k_asm); (case k6 => k_is); (case k7 => k_is); (case k8 => ktr_room); (case k9 => first | exact BindsTo.of_eq rfl | exact binds_K (by k_in) rfl (by k_is) rfl rfl rfl); (case c5 => decide); (case kB => exact locs rfl); (case c2 => exact rfl); (case c3 => exact rfl); (case c4 => exact rfl); k_whole; intro g' L' h' FG' F' N' B' X' T'; (try dsimp only); (try k_lift B'); (try k_fold))
  refine (let e9 : Env := _; (?_ : wpAny _ (Around.deeper _ e9) (execs _ e9) _ _ _))
  refine (let B9 : Around := _; (?_ : wpAny _ B9 _ _ _ _))
  (rename Fr _ _ _ _ => lF)
  replace lF := fr_fold [((Str.ofString "operation"), .ref a), ((Str.ofString "mode"), .int k tk)] lF (by tb_start)
  obtain ⟨u, lF⟩ := lF
  dsimp only [kstB] at lF
  k_with_none
  k_with "compareOp In str ref" => ((with_reducible show wpAny _ _ (compareOp _ _ (Value.ref 406)) _ _ _); k_dflt (refine' in_tup_K ?yF ?yX (tups_look w).1.1 path_are rfl ?_); (case yF => k_asm); (case yX => k_in))
  k_with "compareOp NotIn str ref" => ((with_reducible show wpAny _ _ (compareOp _ _ (Value.ref 406)) _ _ _); k_dflt (refine' notin_tup_K ?yF ?yX (tups_look w).1.1 path_are rfl ?_); (case yF => k_asm); (case yX => k_in))
  k_with "compareOp In str ref" => ((with_reducible show wpAny _ _ (compareOp _ _ (Value.ref 407)) _ _ _); k_dflt (refine' in_tup_K ?yF ?yX (tups_look w).1.2.1 other_are rfl ?_); (case yF => k_asm); (case yX => k_in))
  k_with "compareOp NotIn str ref" => ((with_reducible show wpAny _ _ (compareOp _ _ (Value.ref 407)) _ _ _); k_dflt (refine' notin_tup_K ?yF ?yX (tups_look w).1.2.1 other_are rfl ?_); (case yF => k_asm); (case yX => k_in))
  k_with "compareOp In str ref" => ((with_reducible show wpAny _ _ (compareOp _ _ (Value.ref 408)) _ _ _); k_dflt (refine' in_tup_K ?yF ?yX (tups_look w).1.2.2 shown_are rfl ?_); (case yF => k_asm); (case yX => k_in))
  k_with "compareOp NotIn str ref" => ((with_reducible show wpAny _ _ (compareOp _ _ (Value.ref 408)) _ _ _); k_dflt (refine' notin_tup_K ?yF ?yX (tups_look w).1.2.2 shown_are rfl ?_); (case yF => k_asm); (case yX => k_in))
  k_steps
  all_goals (refine' hret _ _ _ _ ?e1 ?e2 ?e3; (case e1 => k_asm); (case e2 => k_asm); (case e3 => exact ⟨_, _, rfl, rfl, by assumption⟩))
theorem unseen_Q (w : World) (news : List (Addr × Obj)) (v : Value) (l : Addr) (k : Int) (tk : Tok) (ho : OpAt news v (Str.ofString "Q") l) : Ctr w 511 2 [v, .int k tk] news (fun r' n' => ∃ lf nn, Value.ref lf = r' ∧ (lf, listOf [v].toArray nn) :: news = n' ∧ (∀ p ∈ news, p.1 < lf)) := by
  unfold Ctr
  k_fill
  k_with_none
  have ho' := ho
  obtain ⟨a, da, h1, k1, t1, h2, k2, c, ev, m1, m2⟩ := ho'
  subst ev
  intros; rename_i hret
  refine (let A9 : Around := _; (?_ : wpAny _ A9 _ _ _ _))
  refine wpAny_call ?_
  k_dflt (refine' code_def ?k1 ?k2 ?k3 ?k4 ?k5 ?kA ?kF ?kK ?k6 ?k7 ?k8 ?k9 ?kB ?_ ?c2 ?c3 ?c4 ?c5; (case kA => exact rfl); (case kF => exact rfl); (case kK => first | assumption | exact rfl); (case k1 => k_asm); (case k2 => k_asm); (case k3 => k_asm); (case k4 => k_asm); (case k5 => k_asm); (case k6 => k_is); (case k7 => k_is); (case k8 => ktr_room); (case k9 => first | exact BindsTo.of_eq rfl | exact binds_K (by k_in) rfl (by k_is) rfl rfl rfl); (case c5 => decide); (case kB => exact locs rfl); (case c2 => exact rfl); (case c3 => exact rfl); (case c4 => exact rfl); k_whole; intro g' L' h' FG' F' N' B' X' T'; (try dsimp only); (try k_lift B'); (try k_fold))
  refine (let e9 : Env := _; (?_ : wpAny _ (Around.deeper _ e9) (execs _ e9) _ _ _))
  refine (let B9 : Around := _; (?_ : wpAny _ B9 _ _ _ _))
  (rename Fr _ _ _ _ => lF)
  replace lF := fr_fold [((Str.ofString "operation"), .ref a), ((Str.ofString "mode"), .int k tk)] lF (by tb_start)
  obtain ⟨u, lF⟩ := lF
  dsimp only [kstB] at lF
  k_with_none
  k_with "compareOp In str ref" => ((with_reducible show wpAny _ _ (compareOp _ _ (Value.ref 406)) _ _ _); k_dflt (refine' in_tup_K ?yF ?yX (tups_look w).1.1 path_are rfl ?_); (case yF => k_asm); (case yX => k_in))
  k_with "compareOp NotIn str ref" => ((with_reducible show wpAny _ _ (compareOp _ _ (Value.ref 406)) _ _ _); k_dflt (refine' notin_tup_K ?yF ?yX (tups_look w).1.1 path_are rfl ?_); (case yF => k_asm); (case yX => k_in))
  k_with "compareOp In str ref" => ((with_reducible show wpAny _ _ (compareOp _ _ (Value.ref 407)) _ _ _); k_dflt (refine' in_tup_K ?yF ?yX (tups_look w).1.2.1 other_are rfl ?_); (case yF => k_asm); (case yX => k_in))
  k_with "compareOp NotIn str ref" => ((with_reducible show wpAny _ _ (compareOp _ _ (Value.ref 407)) _ _ _); k_dflt (refine' notin_tup_K ?yF ?yX (tups_look w).1.2.1 other_are rfl ?_); (case yF => k_asm); (case yX => k_in))
  k_with "compareOp In str ref" => ((with_reducible show wpAny _ _ (compareOp _ _ (Value.ref 408)) _ _ _); k_dflt (refine' in_tup_K ?yF ?yX (tups_look w).1.2.2 shown_are rfl ?_); (case yF => k_asm); (case yX => k_in))
  k_with "compareOp NotIn str ref" => ((with_reducible show wpAny _ _ (compareOp _ _ (Value.ref 408)) _ _ _); k_dflt (refine' notin_tup_K ?yF ?yX (tups_look w).1.2.2 shown_are rfl ?_); (case yF => k_asm); (case yX => k_in))
  k_steps
  all_goals (refine' hret _ _ _ _ ?e1 ?e2 ?e3; (case e1 => k_asm); (case e2 => k_asm); (case e3 => exact ⟨_, _, rfl, rfl, by assumption⟩))
-- part Unseen2
theorem unseen_hid3 (w : World) (news : List (Addr × Obj)) (v : Value) (l : Addr) (tk : Tok) (ho : OpAt news v (Str.ofString "Tj") l) : Ctr w 511 2 [v, .int 3 tk] news (fun r' n' => ∃ lf nn, Value.ref lf = r' ∧ (lf, listOf [v].toArray nn) :: news = n' ∧ (∀ p ∈ news, p.1 < lf)) := by
  unfold Ctr
  k_fill
  k_with_none
  have ho' := ho
  obtain ⟨a, da, h1, k1, t1, h2, k2, c, ev, m1, m2⟩ := ho'
  subst ev
  intros; rename_i hret
  refine (let A9 : Around := _; (?_ : wpAny _ A9 _ _ _ _))
  refine wpAny_call ?_
  k_dflt (refine' code_def ?k1 ?k2 ?k3 ?k4 ?k5 ?kA ?kF ?kK ?k6 ?k7 ?k8 ?k9 ?kB ?_ ?c2 ?c3 ?c4 ?c5; (case kA => exact rfl); (case kF => exact rfl); (case kK => first | assumption | exact rfl); (case k1 => k_asm); (case k2 => k_asm); (case k3 => k_asm); (case k4 => k_asm); (case k5 => k_asm); (case k6 => k_is); (case k7 => k_is); (case k8 => ktr_room); (case k9 => first | exact BindsTo.of_eq rfl | exact binds_K (by k_in) rfl (by k_is) rfl rfl rfl); (case c5 => decide); (case kB => exact locs rfl); (case c2 => exact rfl); (case c3 => exact rfl); (case c4 => exact rfl); k_whole; intro g' L' h' FG' F' N' B' X' T'; (try dsimp only); (try k_lift B'); (try k_fold))
  refine (let e9 : Env := _; (?_ : wpAny _ (Around.deeper _ e9) (execs _ e9) _ _ _))
  refine (let B9 : Around := _; (?_ : wpAny _ B9 _ _ _ _))
  (rename Fr _ _ _ _ => lF)
  replace lF := fr_fold [((Str.ofString "operation"), .ref a), ((Str.ofString "mode"), .int 3 tk)] lF (by tb_start)
  obtain ⟨u, lF⟩ := lF
  dsimp only [kstB] at lF
  k_with_none
  k_with "compareOp In str ref" => ((with_reducible show wpAny _ _ (compareOp _ _ (Value.ref 406)) _ _ _); k_dflt (refine' in_tup_K ?yF ?yX (tups_look w).1.1 path_are rfl ?_); (case yF => k_asm); (case yX => k_in))
  k_with "compareOp NotIn str ref" => ((with_reducible show wpAny _ _ (compareOp _ _ (Value.ref 406)) _ _ _); k_dflt (refine' notin_tup_K ?yF ?yX (tups_look w).1.1 path_are rfl ?_); (case yF => k_asm); (case yX => k_in))
  k_with "compareOp In str ref" => ((with_reducible show wpAny _ _ (compareOp _ _ (Value.ref 407)) _ _ _); k_dflt (refine' in_tup_K ?yF ?yX (tups_look w).1.2.1 other_are rfl ?_); (case yF => k_asm); (case yX => k_in))
  k_with "compareOp NotIn str ref" => ((with_reducible show wpAny _ _ (compareOp _ _ (Value.ref 407)) _ _ _); k_dflt (refine' notin_tup_K ?yF ?yX (tups_look w).1.2.1 other_are rfl ?_); (case yF => k_asm); (case yX => k_in))
  k_with "compareOp In str ref" => ((with_reducible show wpAny _ _ (compareOp _ _ (Value.ref 408)) _ _ _); k_dflt (refine' in_tup_K ?yF ?yX (tups_look w).1.2.2 shown_are rfl ?_); (case yF => k_asm); (case yX => k_in))
  k_with "compareOp NotIn str ref" => ((with_reducible show wpAny _ _ (compareOp _ _ (Value.ref 408)) _ _ _); k_dflt (refine' notin_tup_K ?yF ?yX (tups_look w).1.2.2 shown_are rfl ?_); (case yF => k_asm); (case yX => k_in))
  k_steps
  rename (_ < _ ∧ AllLt _ _) => hll
  (refine' hret _ _ _ _ ?e1 ?e2 ?e3; (case e1 => k_asm); (case e2 => exact cb_drop (news := (_, listOf (List.toArray [Value.ref a]) 0) :: news) (by k_asm) (by tb_rel)); (case e3 => exact ⟨_, 0, rfl, rfl, allLt_mem hll.2⟩))
theorem unseen_hid7 (w : World) (news : List (Addr × Obj)) (v : Value) (l : Addr) (tk : Tok) (ho : OpAt news v (Str.ofString "Tj") l) : Ctr w 511 2 [v, .int 7 tk] news (fun r' n' => ∃ lf nn, Value.ref lf = r' ∧ (lf, listOf [v].toArray nn) :: news = n' ∧ (∀ p ∈ news, p.1 < lf)) := by
  unfold Ctr
  k_fill
  k_with_none
  have ho' := ho
  obtain ⟨a, da, h1, k1, t1, h2, k2, c, ev, m1, m2⟩ := ho'
  subst ev
  intros; rename_i hret
  refine (let A9 : Around := _; (?_ : wpAny _ A9 _ _ _ _))
  refine wpAny_call ?_
  k_dflt (refine' code_def ?k1 ?k2 ?k3 ?k4 ?k5 ?kA ?kF ?kK ?k6 ?k7 ?k8 ?k9 ?kB ?_ ?c2 ?c3 ?c4 ?c5; (case kA => exact rfl); (case kF => exact rfl); (case kK => first | assumption | exact rfl); (case k1 => k_asm); (case k2 => k_asm); (case k3 => k_asm); (case k4 => k_asm); (case k5 => k_asm); (case k6 => k_is); (case k7 => k_is); (case k8 => ktr_room); (case k9 => first | exact BindsTo.of_eq rfl | exact binds_K (by k_in) rfl (by k_is) rfl rfl rfl); (case c5 => decide); (case kB => exact locs rfl); (case c2 => exact rfl); (case c3 => exact rfl); (case c4 => exact rfl); k_whole; intro g' L' h' FG' F' N' B' X' T'; (try dsimp only); (try k_lift B'); (try k_fold))
  refine (let e9 : Env := _; (?_ : wpAny _ (Around.deeper _ e9) (execs _ e9) _ _ _))
  refine (let B9 : Around := _; (?_ : wpAny _ B9 _ _ _ _))
  (rename Fr _ _ _ _ => lF)
  replace lF := fr_fold [((Str.ofString "operation"), .ref a), ((Str.ofString "mode"), .int 7 tk)] lF (by tb_start)
  obtain ⟨u, lF⟩ := lF
  dsimp only [kstB] at lF
  k_with_none
  k_with "compareOp In str ref" => ((with_reducible show wpAny _ _ (compareOp _ _ (Value.ref 406)) _ _ _); k_dflt (refine' in_tup_K ?yF ?yX (tups_look w).1.1 path_are rfl ?_); (case yF => k_asm); (case yX => k_in))
  k_with "compareOp NotIn str ref" => ((with_reducible show wpAny _ _ (compareOp _ _ (Value.ref 406)) _ _ _); k_dflt (refine' notin_tup_K ?yF ?yX (tups_look w).1.1 path_are rfl ?_); (case yF => k_asm); (case yX => k_in))
  k_with "compareOp In str ref" => ((with_reducible show wpAny _ _ (compareOp _ _ (Value.ref 407)) _ _ _); k_dflt (refine' in_tup_K ?yF ?yX (tups_look w).1.2.1 other_are rfl ?_); (case yF => k_asm); (case yX => k_in))
  k_with "compareOp NotIn str ref" => ((with_reducible show wpAny _ _ (compareOp _ _ (Value.ref 407)) _ _ _); k_dflt (refine' notin_tup_K ?yF ?yX (tups_look w).1.2.1 other_are rfl ?_); (case yF => k_asm); (case yX => k_in))
  k_with "compareOp In str ref" => ((with_reducible show wpAny _ _ (compareOp _ _ (Value.ref 408)) _ _ _); k_dflt (refine' in_tup_K ?yF ?yX (tups_look w).1.2.2 shown_are rfl ?_); (case yF => k_asm); (case yX => k_in))
  k_with "compareOp NotIn str ref" => ((with_reducible show wpAny _ _ (compareOp _ _ (Value.ref 408)) _ _ _); k_dflt (refine' notin_tup_K ?yF ?yX (tups_look w).1.2.2 shown_are rfl ?_); (case yF => k_asm); (case yX => k_in))
  k_steps
  rename (_ < _ ∧ AllLt _ _) => hll
  (refine' hret _ _ _ _ ?e1 ?e2 ?e3; (case e1 => k_asm); (case e2 => exact cb_drop (news := (_, listOf (List.toArray [Value.ref a]) 0) :: news) (by k_asm) (by tb_rel)); (case e3 => exact ⟨_, 0, rfl, rfl, allLt_mem hll.2⟩))
-- part Unseen4
theorem Ctr.deep {w : World} {f : Addr} {d d' : Nat} {vs : List Value} {news : List (Addr × Obj)} {Post : Value → List (Addr × Obj) → Prop} (C : Ctr w f d vs news Post) (h : d ≤ d') : Ctr w f d' vs news Post := by
  intro q loose mean mg mb dp un gd cn cs a ccd cl outer A₀ base h₀ L m s Q E B F X N T hk hd hu ret
  exact C.use B F X N T hk (by omega) (by omega) ret
def UnP (B news : List (Addr × Obj)) (ds : List Dat) (r' : Value) (n' : List (Addr × Obj)) : Prop :=
  ∃ pre lf nn vs, pre ++ news = n' ∧ Value.ref lf = r' ∧ (lf, listOf (List.toArray vs) nn) ∈ pre ∧ All2 (TOp (pre ++ B)) vs ds ∧ Apart pre news
theorem UnP.one {B news : List (Addr × Obj)} {v : Value} {d : Dat} (h : TOp B v d) {r' : Value} {n' : List (Addr × Obj)} : (∃ lf nn, Value.ref lf = r' ∧ (lf, listOf [v].toArray nn) :: news = n' ∧ (∀ p ∈ news, p.1 < lf)) → UnP B news [d] r' n' :=
  fun ⟨lf, nn, e1, e2, e3⟩ => ⟨[(lf, _)], lf, nn, [v], e2, e1, List.Mem.head _, .cons (h.sub fun p hp => List.Mem.tail _ hp) .nil, Apart.cons (fun q hq => Nat.ne_of_lt (e3 q hq)) Apart.nil⟩
theorem unseen_ok (w : World) (B news : List (Addr × Obj)) (v : Value) (o : RK) (k : Int) (tk : Tok) (hB : ∀ p ∈ B, p ∈ news) (ho : OpK B v o) : Ctr w 511 4 [v, .int k tk] news (UnP B news (outK o k)) := by
  have ht := ho.told
  have one : (o = .tj → hidden k = true) → outK o k = [o.dat] := fun h => by
    unfold outK
    rw [if_neg]
    rintro ⟨a, b⟩
    rw [h a] at b; cases b
  have ho' := ho.sub hB
  cases o with
  | tj =>
    obtain ⟨l, x, n, h1, h2, h3⟩ := ho'
    have tri : ∀ (hk : hidden k = false), outK .tj k = [trDat (otherMode k), RK.tj.dat, trDat k] := fun hk => by unfold outK; rw [if_pos ⟨rfl, hk⟩]
    have fin : ∀ (hk : hidden k = false) (r' : Value) (n' : List (Addr × Obj)), (∃ pre lf nn v1 v2, pre ++ news = n' ∧ Value.ref lf = r' ∧ (lf, listOf [v1, v, v2].toArray nn) ∈ pre ∧ OpK pre v1 (.trI (otherMode k)) ∧ OpK pre v2 (.trI k) ∧ Apart pre news) → UnP B news (outK .tj k) r' n' := by
      rintro hk r' n' ⟨pre, lf, nn, v1, v2, e1, e2, m, o1, o2, ap⟩
      rw [tri hk]
      exact ⟨pre, lf, nn, _, e1, e2, m, .cons (o1.told.sub fun p hp => List.mem_append_left _ hp) (.cons (ht.sub fun p hp => List.mem_append_right _ hp) (.cons (o2.told.sub fun p hp => List.mem_append_left _ hp) .nil)), ap⟩
    by_cases e3 : k = 3
    · subst e3
      rw [one fun _ => rfl]
      exact ((unseen_hid3 w news v l tk h1).deep (by omega)).mono fun r n => UnP.one ht
    by_cases e7 : k = 7
    · subst e7
      rw [one fun _ => rfl]
      exact ((unseen_hid7 w news v l tk h1).deep (by omega)).mono fun r n => UnP.one ht
    have hk : hidden k = false := by simp [hidden, e3, e7]
    by_cases e4 : k < 4
    · exact (unseen_low w news v l k tk h1 e4 e3).mono (fin hk)
    · exact (unseen_high w news v l k tk h1 (by omega) e7).mono (fin hk)
  | trI m =>
    obtain ⟨l, x, n, h1, h2⟩ := ho'
    rw [one fun e => nomatch e]
    exact ((unseen_Tr w news v l k tk h1).deep (by omega)).mono fun r n => UnP.one ht
  | trD a b =>
    obtain ⟨l, x, n, h1, h2, h3, h4⟩ := ho'
    rw [one fun e => nomatch e]
    exact ((unseen_Tr w news v l k tk h1).deep (by omega)).mono fun r n => UnP.one ht
  | q =>
    obtain ⟨l, n, h1, h2⟩ := ho'
    rw [one fun e => nomatch e]
    exact ((unseen_q w news v l k tk h1).deep (by omega)).mono fun r n => UnP.one ht
  | Q =>
    obtain ⟨l, n, h1, h2⟩ := ho'
    rw [one fun e => nomatch e]
    exact ((unseen_Q w news v l k tk h1).deep (by omega)).mono fun r n => UnP.one ht
theorem unseen_open (w : World) (B news : List (Addr × Obj)) (v : Value) (l : Addr) (k : Int) (tk : Tok) (d : Dat) (hB : ∀ p ∈ B, p ∈ news) (ho : OpAt B v (Str.ofString "BDC") l) (ht : TOp B v d) : Ctr w 511 4 [v, .int k tk] news (UnP B news [d]) :=
  ((unseen_BDC w news v l k tk (ho.sub hB)).deep (by omega)).mono fun r n => UnP.one ht
-- part Vis0
section
variable {prog : Program} {w : World} {A : Around} {E : Value → Shared → Prop} {s : Shared} {h₀ h h' : Heap} {L D b : Addr} {m : Str → Option Value} {full keep : List (Addr × Obj)} {o o' : Obj}
theorem extend_L {xs ys : List Value} {n n2 : Nat} {Q : Value → Shared → Prop} (keep : List (Addr × Obj)) (F : Fr h₀ L s.heap m) (N : News h₀ L s.heap full) (hm : (D, listOf xs.toArray n) ∈ full) (hk : ∀ p ∈ keep, p ∈ full) (hne : ∀ p ∈ keep, p.1 ≠ D) (hb : (b, listOf ys.toArray n2) ∈ keep)
    (hy : 0 < ys.length) (hz : xs.length ≤ 1000) (hz2 : ys.length ≤ 1000)
    (h : ∀ h', Fr h₀ L h' m → News h₀ L h' ((D, listOf (xs ++ ys).toArray (n + 1)) :: keep) → Q .none { s with heap := h' }) : wpAny (model prog w) A (call (.builtin "list.extend") [.ref D, .ref b]) Q E s := by
  have N' : News h₀ L s.heap ((D, listOf xs.toArray n) :: keep) := fun p hp => (List.mem_cons.mp hp).elim (fun e => e ▸ N _ hm) fun hp => N p (hk p hp)
  refine kl_extend F N' (List.Mem.tail _ hb) (l := xs ++ ys) (by simp) (by rw [List.toList_toArray]; omega) (.head hne) ?_ (by rw [sizeLine_eq]; simp; omega) (by rw [sizeLine_eq]; simp; omega) h
  intro q
  simp only [Bool.and_eq_true] at q
  have q2 := q.2
  unfold Builtin.List.listTooLong at q2
  rw [sizeLine_eq] at q2
  simp at q2
  omega
def isFalse : Value → Bool
  | .bool b => b == false
  | _ => false
theorem notin_one {l : Addr} {n : Nat} {Q : Value → Shared → Prop} (N : News h₀ L s.heap full) (hm : (l, listOf (List.toArray [Value.bool false]) n) ∈ full) (h : Q (.bool false) s) : wpAny (model prog w) A (compareOp .NotIn (.bool false) (.ref l)) Q E s :=
  PySem.SeqAt.notIn_listAt isFalse (News.isList N hm) (fun y hy => by
    simp at hy
    subst hy
    exact PySem.SeqAt.EqAt.bool_bool false false) (by simpa [isFalse] using h)
theorem notin_none {l : Addr} {n : Nat} {Q : Value → Shared → Prop} (N : News h₀ L s.heap full) (hm : (l, listOf (List.toArray []) n) ∈ full) (h : Q (.bool true) s) : wpAny (model prog w) A (compareOp .NotIn (.bool false) (.ref l)) Q E s :=
  PySem.SeqAt.notIn_listAt isFalse (News.isList N hm) (fun y hy => by simp at hy) (by simpa using h)
end
theorem ints_nil {ms : List Value} {st : List Int} (h : IntsAre ms st) : (ms = [] ↔ st = []) := by
  cases h <;> simp
theorem ints_drop {ms : List Value} {st : List Int} (h : IntsAre ms st) : IntsAre ms.dropLast st.dropLast := by
  rcases Nat.eq_zero_or_pos ms.length with e | e
  · have e1 := List.length_eq_zero_iff.mp e
    rw [(ints_nil h).mp e1, e1]; exact .nil
  · obtain ⟨_, _, _, _, r⟩ := kpa_ints h e
    exact r
theorem step_ok (w : World) (rest : List (Addr × Obj)) (sg dsg lm lo vd : Addr) (h1 h2 h3 : Int) (k1 k2 k3 : Tok) (k : Int) (t : Tok) (ms : List Value) (st : List Int) (nm nm2 : Nat) (v : Value) (o : RK) (m0 : (sg, instObj 535 dsg) ∈ rest) (his : IntsAre ms st) (hz : ms.length ≤ 100) (x1 : ∀ p ∈ rest, p.1 ≠ dsg) (x2 : ∀ p ∈ rest, p.1 ≠ lo) (x3 : ∀ p ∈ rest, p.1 ≠ lm) (y1 : dsg ≠ lo) (y2 : dsg ≠ lm) (y3 : lo ≠ lm) (ho : OpK rest v o) :
    Ctr w 532 6 [.ref sg, v, .ref vd] ((dsg, sightO h1 h2 h3 k1 k2 k3 lm lo k t) :: (lo, listOf ms.toArray nm) :: (lm, listOf (List.toArray [Value.bool false]) nm2) :: rest)
      (fun r' n' => Value.none = r' ∧ ∃ nx t2 ms2, IntsAre ms2 (modeAfter o k st).2 ∧ ms2.length ≤ ms.length + 1 ∧ ((dsg, sightO h1 h2 h3 k1 k2 k3 lm lo (modeAfter o k st).1 t2) :: (lo, listOf ms2.toArray nx) :: (lm, listOf (List.toArray [Value.bool false]) nm2) :: rest) = n') := by
  cases o with
  | tj =>
    obtain ⟨l, x, n, a1, a2, a3⟩ := ho
    exact (step_tj w rest sg dsg lm lo vd h1 h2 h3 k1 k2 k3 k t ms st nm nm2 v l m0 his hz x1 x2 x3 y1 y2 y3 a1).mono fun r n ⟨e, nx, t2, f⟩ => ⟨e, nx, t2, ms, his, by omega, f⟩
  | trI j =>
    obtain ⟨l, tj, n, a1, a2⟩ := ho
    exact (step_trI w rest sg dsg lm lo vd h1 h2 h3 k1 k2 k3 k t ms st nm nm2 v l m0 his hz x1 x2 x3 y1 y2 y3 a1 j tj n a2).mono fun r n ⟨e, nx, t2, f⟩ => ⟨e, nx, t2, ms, his, by omega, f⟩
  | trD a b =>
    obtain ⟨l, x, n, a1, a2, a3, a4⟩ := ho
    rcases a4 with rfl | rfl
    · exact (step_trD0 w rest sg dsg lm lo vd h1 h2 h3 k1 k2 k3 k t ms st nm nm2 v l m0 his hz x1 x2 x3 y1 y2 y3 a1 x a n a2 a3).mono fun r n ⟨e, nx, t2, f⟩ => ⟨e, nx, t2, ms, his, by omega, f⟩
    · exact (step_trD1 w rest sg dsg lm lo vd h1 h2 h3 k1 k2 k3 k t ms st nm nm2 v l m0 his hz x1 x2 x3 y1 y2 y3 a1 x a n a2 a3).mono fun r n ⟨e, nx, t2, f⟩ => ⟨e, nx, t2, ms, his, by omega, f⟩
  | q =>
    obtain ⟨l, n, a1, a2⟩ := ho
    exact (step_q w rest sg dsg lm lo vd h1 h2 h3 k1 k2 k3 k t ms st nm nm2 v l m0 his hz x1 x2 x3 y1 y2 y3 a1).mono fun r n ⟨e, nx, t2, f⟩ => ⟨e, nx, t2, _, IntsAre.snoc his k t, by simp, f⟩
  | Q =>
    obtain ⟨l, n, a1, a2⟩ := ho
    by_cases hp : ms = []
    · have hs := (ints_nil his).mp hp
      have e1 : (modeAfter .Q k st) = (k, []) := by simp [modeAfter, hs]
      rw [e1]
      exact (step_Q0 w rest sg dsg lm lo vd h1 h2 h3 k1 k2 k3 k t ms st nm nm2 v l m0 his hz x1 x2 x3 y1 y2 y3 a1 hp).mono fun r n ⟨e, nx, t2, f⟩ => ⟨e, nx, t2, ms, by rw [hp]; exact .nil, by omega, f⟩
    · have hs : st ≠ [] := fun e => hp ((ints_nil his).mpr e)
      have e1 : (modeAfter .Q k st) = (st.getLastD 0, st.dropLast) := by simp [modeAfter, hs]
      rw [e1]
      have hl : 0 < ms.length := List.length_pos_iff.mpr hp
      exact (step_Q1 w rest sg dsg lm lo vd h1 h2 h3 k1 k2 k3 k t ms st nm nm2 v l m0 his hz x1 x2 x3 y1 y2 y3 a1 hl (by cases ms with | nil => exact absurd rfl hp | cons => rfl)).mono fun r n ⟨e, nx, t2, f⟩ => ⟨e, nx, t2, _, ints_drop his, by rw [List.length_dropLast]; omega, f⟩
end
end
section
set_option hygiene false in
local macro_rules | `(tactic| kt_at_method) => `(tactic| first | (apply NeAll.of; with_reducible assumption) | with_reducible apply NeAll.nil | (with_reducible apply NeAll.ofLt; simp only [AllLt, and_true]; with_reducible assumption) | ((with_reducible apply NeAll.cons); (focus k_ne); kt_at_method) | ((with_reducible apply NeAll.app); (focus kt_at_method); kt_at_method) | (apply NeAll.of; exact Apart.ne (by with_reducible assumption) (by k_mem)))
section
set_option hygiene false in
local macro_rules | `(tactic| walk_at "call builtin:list.extend") => `(tactic| k_extra "call builtin:list.extend")
section
set_option hygiene false in
local macro_rules | `(tactic| walk_at "compareOp NotIn bool ref") => `(tactic| k_extra "compareOp NotIn bool ref")
-- part Vis
theorem vis_ok (w : World) (base : List (Addr × Obj)) (lop vd : Addr) (ov : Obj) (nop n8 n9 : Nat) (vo vc x8 x9 : Value) (l8 l9 : Addr) (vrow : List Value) (ops : List RK) (hop : (lop, listOf (vo :: (vrow ++ [vc])).toArray nop) ∈ base) (hrow : All2 (OpK base) vrow ops) (hlen : ops.length ≤ 8) (ho : OpAt base vo (Str.ofString "BDC") l8) (hl : (l8, listOf [x8, x9].toArray n8) ∈ base) (hn1 : NameAt base x8 (Str.ofString "OC")) (hn2 : NameAt base x9 (Str.ofString "A")) (hv : (vd, ov) ∈ base) (hd : ov.IsDictOf (PySem.strKind PySem.Challenge.rw_qd0128_01.prog w) [(Str.ofString "A", .bool false)]) (lov : (vd == sysModules) = false) (hc : OpAt base vc (Str.ofString "EMC") l9) (hl9 : (l9, listOf (List.toArray []) n9) ∈ base) : Ctr w 546 8 [.ref lop, .ref vd] base (fun r' n' => ∃ lf nf fv pre, Value.ref lf = r' ∧ n' = (lf, listOf (List.toArray fv) nf) :: (pre ++ base) ∧ All2 (TOp (pre ++ base)) fv (openDat :: (runOf ops).out ++ [closeDat])) := by
  unfold Ctr
  k_fill
  k_with_none
  intros; rename_i hret
  refine (let A9 : Around := _; (?_ : wpAny _ A9 _ _ _ _))
  refine wpAny_call ?_
  k_dflt (refine' code_def ?k1 ?k2 ?k3 ?k4 ?k5 ?kA ?kF ?kK ?k6 ?k7 ?k8 ?k9 ?kB ?_ ?c2 ?c3 ?c4 ?c5; (case kA => exact rfl); (case kF => exact rfl); (case kK => first | assumption | exact rfl); (case k1 => k_asm); (case k2 => k_asm); (case k3 => k_asm); (case k4 => k_asm); (case k5 => k_asm); (case k6 => k_is); (case k7 => k_is); (case k8 => ktr_room); (case k9 => first | exact BindsTo.of_eq rfl | exact binds_K (by k_in) rfl (by k_is) rfl rfl rfl); (case c5 => decide); (case kB => exact locs rfl); (case c2 => exact rfl); (case c3 => exact rfl); (case c4 => exact rfl); k_whole; intro g' L' h' FG' F' N' B' X' T'; (try dsimp only); (try k_lift B'); (try k_fold))
  refine (let B9 : Around := _; (?_ : wpAny _ B9 _ _ _ _))
  (rename Fr _ _ _ _ => lF)
  replace lF := fr_fold [((Str.ofString "operations"), .ref lop), ((Str.ofString "visible"), .ref vd)] lF (by tb_start)
  obtain ⟨u, lF⟩ := lF
  dsimp only [kstB] at lF
  k_with_none
  k_with "call!" => ((with_reducible show wpAny _ _ (call (Value.ref 535) _) _ _ _); k_dflt (refine' Ctr.use ?kC ?k1 ?k2 ?k3 ?k4 ?k5 ?kK ?kd ?ku ?_); (case k4 => k_asm); (case kC => k_dflt (exact sight_mk w _)); (case k1 => k_asm); (case k2 => k_asm); (case k3 => k_asm); (case k5 => k_asm); (case kK => first | exact rfl | assumption); (case kd => ktr_room); (case ku => ktr_units); intro r9 n9 h9 tk9 F9 N9 p9; (obtain ⟨sg, dsg, lm, lo, h1, h2, h3, k1, k2, k3, t0, e8, e9, ls1, ls2, ls3, ls4⟩ := p9; subst e8; subst e9); (try dsimp only); (try k_fold))
  k_steps
  unfold Held
  (rename Fr _ _ _ _ => lF); (rename News _ _ _ _ => lN)
  refine nm 0 _ _ rfl lN ?_
  intro lf olf e1 e2; subst e1; subst e2
  rename (_ < lf ∧ _) => llf
  refine abs_list ((sg, instObj 535 dsg) :: base) ?_
  intro RB eRB
  have hto : TOp base vo openDat := ⟨_, _, _, _, _, ho, hl, .cons (.name hn1) (.cons (.name hn2) .nil), by simp, rfl⟩
  have htc : TOp base vc closeDat := ⟨_, _, _, _, _, hc, hl9, .nil, by simp, rfl⟩
  have m0 : (sg, instObj 535 dsg) ∈ RB := by rw [eRB]; k_mem
  have hB0 : ∀ p ∈ base, p ∈ RB := by rw [eRB]; tb_rel
  have b0 : @LT.lt Nat _ lop dsg := ls1 _ hop
  have y1 : @Ne Nat dsg lo := by omega
  have y2 : @Ne Nat dsg lm := by omega
  have y3 : @Ne Nat lo lm := by omega
  have y4 : @Ne Nat lf lo := by omega
  have y5 : @Ne Nat lf lm := by omega
  have y6 : @Ne Nat lf dsg := by omega
  have rb : ∀ p ∈ RB, @LT.lt Nat _ p.1 lm := by
    rw [eRB]
    intro p hp
    rcases List.mem_cons.mp hp with rfl | hp
    · exact ls3
    · exact Nat.lt_trans (ls1 p hp) (by omega)
  have rb1 : ∀ p ∈ RB, p.1 ≠ dsg := by
    rw [eRB]
    intro p hp
    rcases List.mem_cons.mp hp with rfl | hp
    · exact Nat.ne_of_gt ls2
    · exact Nat.ne_of_lt (ls1 p hp)
  have rb2 : ∀ p ∈ RB, p.1 ≠ lo := fun p hp => Nat.ne_of_lt (Nat.lt_trans (rb p hp) ls4)
  have rb3 : ∀ p ∈ RB, p.1 ≠ lm := fun p hp => Nat.ne_of_lt (rb p hp)
  have rb4 : ∀ p ∈ RB, p.1 ≠ lf := fun p hp => Nat.ne_of_lt (Nat.lt_trans (rb p hp) (by omega))
  replace lN := cb_drop (news := (lf, listOf (List.toArray []) 0) :: (dsg, sightO h1 h2 h3 k1 k2 k3 lm lo 0 t0) :: (lo, listOf (List.toArray []) 0) :: (lm, listOf (List.toArray []) 0) :: ([] ++ RB)) lN (by rw [eRB]; tb_rel)
  with_unfolding_all refine' list_rule2 (vs := vo :: (vrow ++ [vc])) (ps₀ := [((Str.ofString "visible"), .ref vd), ((Str.ofString "sight"), .ref sg), ((Str.ofString "found"), .ref lf)]) (fun i ps nx => ∃ t ms nml nmk fv nf pre, (lf, listOf (List.toArray fv) nf) :: (dsg, sightO h1 h2 h3 k1 k2 k3 lm lo (VS ops i).2.1 t) :: (lo, listOf (List.toArray ms) nml) :: (lm, listOf (List.toArray (VS ops i).1) nmk) :: (pre ++ RB) = nx ∧ IntsAre ms (VS ops i).2.2.1 ∧ ms.length ≤ i ∧ All2 (TOp (pre ++ RB)) fv (VS ops i).2.2.2 ∧ fv.length ≤ 3 * i ∧ Apart pre ((lf, listOf (List.toArray fv) nf) :: (dsg, sightO h1 h2 h3 k1 k2 k3 lm lo (VS ops i).2.1 t) :: (lo, listOf (List.toArray ms) nml) :: (lm, listOf (List.toArray (VS ops i).1) nmk) :: RB) ∧ [((Str.ofString "visible"), .ref vd), ((Str.ofString "sight"), .ref sg), ((Str.ofString "found"), .ref lf)] = ps) (by rfl) ?hl ?hll lF lN (by tb_start) ?j0 ?turn ?done
  case hl => exact News.isList lN (by have q := hB0 _ hop; k_mem)
  case hll => exact (lN (lop, _) (by have q := hB0 _ hop; k_mem)).2.1
  case j0 => exact ⟨t0, [], 0, 0, [], 0, [], rfl, .nil, by simp, .nil, by simp, Apart.nil, rfl⟩
  case done =>
    clear lF lN
    intro ps nx u h tk hJ F N
    obtain ⟨t, ms, nml, nmk, fv, nf, pre, e1, his, hml, hall, hfl, hap, e2⟩ := hJ
    subst e1; subst e2
    dsimp only [kstB, envOf] at F N
    rw [show (vo :: (vrow ++ [vc])).length = ops.length + 1 + 1 by simp [hrow.length], VS_close, VS_end] at hall
    k_steps
    subst eRB
    all_goals (refine' hret _ _ _ _ ?e1 ?e2 ?e3; (case e1 => k_asm); (case e2 => exact cb_drop (news := (lf, _) :: (pre ++ (sg, instObj 535 dsg) :: base)) (by k_asm) (by tb_rel)); (case e3 => exact ⟨lf, nf, fv, pre ++ [(sg, instObj 535 dsg)], rfl, (by simp), hall.mono fun h => h.sub (by rw [List.append_assoc]; tb_rel)⟩))
  case turn =>
    clear lF lN
    intro i v ps nx u h tk own hi hJ hoff F N
    obtain ⟨t, ms, nml, nmk, fv, nf, pre, e1, his, hml, hall, hfl, hap, e2⟩ := hJ
    subst e1; subst e2
    dsimp only [kstB, envOf] at F N hoff
    k_with_none
    rcases i with _ | j
    · skip
      obtain rfl : vo = v := by simpa using hi
      generalize hV : VS ops 0 = V at *
      obtain rfl : V = ([], 0, [], []) := hV.symm.trans (VS_0 ops)
      dsimp only at *
      have o1 := ow_off hoff (a := dsg) (by k_mem) (by omega)
      have o2 := ow_off hoff (a := lo) (by k_mem) (by omega)
      have o3 := ow_off hoff (a := lm) (by k_mem) (by omega)
      have o4 := ow_off hoff (a := lf) (by k_mem) (by omega)
      k_with "method!" => (k_dflt (refine' method_inst ?k1O ?k2O ?k3O ?k4O ?k5O ?k6O ?k7O ?_); (case k1O => k_asm); (case k2O => k_asm); (case k3O => k_inst); (case k4O => k_is); (case k5O => k_is); (case k6O => k_is); (case k7O => k_get); k_whole)
      k_with "call!" => ((with_reducible show wpAny _ _ (call (Value.ref 532) _) _ _ _); k_dflt (refine' Ctr.use ?kCO ?k1O ?k2O ?k3O ?k4O ?k5O ?kKO ?kdO ?kuO ?_); (case k4O => k_dflt (exact cb_drop (news := (dsg, _) :: (lo, _) :: (lm, _) :: (own ++ (lf, _) :: (pre ++ RB))) (by k_asm) (by tb_rel))); (case kCO => k_dflt (exact step_open w _ sg dsg lm lo vd h1 h2 h3 k1 k2 k3 _ t ms _ nml nmk _ l8 (by k_mem) his (by omega) (by k_all) (by k_all) (by k_all) y1 y2 y3 (ho.sub (fun p hp => by have q := hB0 p hp; k_mem)) x8 x9 ov n8 (by have q := hB0 _ hl; k_mem) (hn1.sub (fun p hp => by have q := hB0 p hp; k_mem)) (hn2.sub (fun p hp => by have q := hB0 p hp; k_mem)) (by have q := hB0 _ hv; k_mem) hd lov)); (case k1O => k_asm); (case k2O => k_asm); (case k3O => k_asm); (case k5O => k_asm); (case kKO => first | exact rfl | assumption); (case kdO => ktr_room); (case kuO => ktr_units); intro r9 n9 h9 tk9 F9 N9 p9; (obtain ⟨e8, nk2, e9⟩ := p9; subst e8; subst e9); (try dsimp only); (try k_fold))
      k_with "call!" => ((with_reducible show wpAny _ _ (call (Value.ref 511) _) _ _ _); k_dflt (refine' Ctr.use ?kCO ?k1O ?k2O ?k3O ?k4O ?k5O ?kKO ?kdO ?kuO ?_); (case k4O => k_asm); (case kCO => k_dflt (exact unseen_open w base _ _ l8 _ _ openDat (fun p hp => by have q := hB0 p hp; k_mem) ho hto)); (case k1O => k_asm); (case k2O => k_asm); (case k3O => k_asm); (case k5O => k_asm); (case kKO => first | exact rfl | assumption); (case kdO => ktr_room); (case kuO => ktr_units); intro r7 n7 h7 tk7 F7 N7 p7; (unfold UnP at p7; obtain ⟨pre2, lf2, nn2, vs2, e8, e9, hm2, hall2, hap2⟩ := p7; subst e8; subst e9); (try dsimp only); (try k_fold))
      k_with "call builtin:list.extend" => (k_dflt (refine' extend_L (pre2 ++ (dsg, sightO h1 h2 h3 k1 k2 k3 lm lo 0 t) :: (lo, listOf (List.toArray ms) nml) :: (lm, listOf (List.toArray [Value.bool false]) nk2) :: (own ++ (pre ++ RB))) ?xFO ?xNO ?xmO ?xkO ?xneO ?xbO ?xyO ?xzO ?xz2O ?_); (case xFO => k_asm); (case xNO => k_asm); (case xmO => k_mem); (case xkO => tb_rel); (case xneO => k_all); (case xbO => k_mem); (case xyO => k_dflt (exact (one_len hall2).1)); (case xzO => omega); (case xz2O => (have q9 := (one_len hall2).2; omega)); intro h' F' N')
      k_with "compareOp NotIn bool ref" => (k_dflt (refine' notin_one ?nNO ?nmO ?_); (case nNO => k_asm); (case nmO => k_mem))
      k_steps
      unfold Held
      refine' TurnP.next (ps' := [((Str.ofString "visible"), .ref vd), ((Str.ofString "sight"), .ref sg), ((Str.ofString "found"), .ref lf)]) (nx' := (lf, listOf (List.toArray (fv ++ vs2)) (nf + 1)) :: (dsg, sightO h1 h2 h3 k1 k2 k3 lm lo 0 t) :: (lo, listOf (List.toArray ms) nml) :: (lm, listOf (List.toArray [Value.bool false]) nk2) :: ((pre2 ++ pre) ++ RB)) ?tFO ?tNO ?tnO ?tcO ?tkO ?tJO
      (case tFO => k_asm)
      (case tNO => k_asm)
      (case tnO => tb_rel)
      (case tcO => exact offT (pre2 := pre2) hoff (hap2.mono (by tb_rel)))
      (case tkO => tb_start)
      (case tJO => (rw [VS_1']; exact ⟨t, ms, nml, nk2, _, _, pre2 ++ pre, rfl, his, by omega, (hall.mono fun h => h.sub (by tb_rel)).append (hall2.mono fun h => h.sub fun p hp => (List.mem_append.mp hp).elim (fun q => by k_mem) fun q => (by have q2 := hB0 p q; k_mem)), (by rw [List.length_append]; have q9 := (one_len hall2).2; omega), Apart.append (hap2.five (by k_mem) (by k_mem) (by k_mem) (by k_mem) (by tb_rel)) (hap.five (by k_mem) (by k_mem) (by k_mem) (by k_mem) (by tb_rel)), rfl⟩))
    rcases row_at hi with ⟨hj, hvj⟩ | ⟨hj, hvj⟩
    · skip
      have hjl : j < ops.length := by rw [← hrow.length]; exact hj
      have e := VS_mid (ops := ops) (i := j) (by omega)
      generalize hV : VS ops (j + 1) = V at *
      obtain ⟨mk, K, st, ds⟩ := V
      obtain ⟨rfl, e⟩ := Prod.mk.inj e
      clear e
      dsimp only at *
      obtain ⟨o, hoi, hov⟩ := hrow.get hvj
      have o1 := ow_off hoff (a := dsg) (by k_mem) (by omega)
      have o2 := ow_off hoff (a := lo) (by k_mem) (by omega)
      have o3 := ow_off hoff (a := lm) (by k_mem) (by omega)
      have o4 := ow_off hoff (a := lf) (by k_mem) (by omega)
      k_with "method!" => (k_dflt (refine' method_inst ?k1 ?k2 ?k3 ?k4 ?k5 ?k6 ?k7 ?_); (case k1 => k_asm); (case k2 => k_asm); (case k3 => k_inst); (case k4 => k_is); (case k5 => k_is); (case k6 => k_is); (case k7 => k_get); k_whole)
      k_with "call!" => ((with_reducible show wpAny _ _ (call (Value.ref 532) _) _ _ _); k_dflt (refine' Ctr.use ?kC ?k1 ?k2 ?k3 ?k4 ?k5 ?kK ?kd ?ku ?_); (case k4 => k_dflt (exact cb_drop (news := (dsg, _) :: (lo, _) :: (lm, _) :: (own ++ (lf, _) :: (pre ++ RB))) (by k_asm) (by tb_rel))); (case kC => k_dflt (exact step_ok w _ sg dsg lm lo vd h1 h2 h3 k1 k2 k3 _ t ms _ nml nmk v o (by k_mem) his (by omega) (by k_all) (by k_all) (by k_all) y1 y2 y3 (hov.sub (fun p hp => by have q := hB0 p hp; k_mem)))); (case k1 => k_asm); (case k2 => k_asm); (case k3 => k_asm); (case k5 => k_asm); (case kK => first | exact rfl | assumption); (case kd => ktr_room); (case ku => ktr_units); intro r9 n9 h9 tk9 F9 N9 p9; (obtain ⟨e8, nx2, t2, ms2, his2, hml2, e9⟩ := p9; subst e8; subst e9); (try dsimp only); (try k_fold))
      k_with "call!" => ((with_reducible show wpAny _ _ (call (Value.ref 511) _) _ _ _); k_dflt (refine' Ctr.use ?kC ?k1 ?k2 ?k3 ?k4 ?k5 ?kK ?kd ?ku ?_); (case k4 => k_asm); (case kC => k_dflt (exact unseen_ok w base _ v o _ _ (fun p hp => by have q := hB0 p hp; k_mem) hov)); (case k1 => k_asm); (case k2 => k_asm); (case k3 => k_asm); (case k5 => k_asm); (case kK => first | exact rfl | assumption); (case kd => ktr_room); (case ku => ktr_units); intro r7 n7 h7 tk7 F7 N7 p7; (unfold UnP at p7; obtain ⟨pre2, lf2, nn2, vs2, e8, e9, hm2, hall2, hap2⟩ := p7; subst e8; subst e9); (try dsimp only); (try k_fold))
      k_with "call builtin:list.extend" => (k_dflt (refine' extend_L (pre2 ++ (dsg, sightO h1 h2 h3 k1 k2 k3 lm lo (modeAfter o K st).1 t2) :: (lo, listOf (List.toArray ms2) nx2) :: (lm, listOf (List.toArray [Value.bool false]) nmk) :: (own ++ (pre ++ RB))) ?xF ?xN ?xm ?xk ?xne ?xb ?xy ?xz ?xz2 ?_); (case xF => k_asm); (case xN => k_asm); (case xm => k_mem); (case xk => tb_rel); (case xne => k_all); (case xb => k_mem); (case xy => k_dflt (exact (outK_len hall2).1)); (case xz => omega); (case xz2 => (have q9 := (outK_len hall2).2; omega)); intro h' F' N')
      k_with "compareOp NotIn bool ref" => (k_dflt (refine' notin_one ?nN ?nm ?_); (case nN => k_asm); (case nm => k_mem))
      k_steps
      unfold Held
      refine' TurnP.next (ps' := [((Str.ofString "visible"), .ref vd), ((Str.ofString "sight"), .ref sg), ((Str.ofString "found"), .ref lf)]) (nx' := (lf, listOf (List.toArray (fv ++ vs2)) (nf + 1)) :: (dsg, sightO h1 h2 h3 k1 k2 k3 lm lo (modeAfter o K st).1 t2) :: (lo, listOf (List.toArray ms2) nx2) :: (lm, listOf (List.toArray [Value.bool false]) nmk) :: ((pre2 ++ pre) ++ RB)) ?tF ?tN ?tn ?tc ?tk ?tJ
      (case tF => k_asm)
      (case tN => k_asm)
      (case tn => tb_rel)
      (case tc => exact offT hoff (hap2.mono (by tb_rel)))
      (case tk => tb_start)
      (case tJ => (rw [VS_row hoi, hV]; exact ⟨t2, ms2, nx2, nmk, _, _, pre2 ++ pre, rfl, his2, by omega, (hall.mono fun h => h.sub (by tb_rel)).append (hall2.mono fun h => h.sub fun p hp => (List.mem_append.mp hp).elim (fun q => by k_mem) fun q => (by have q2 := hB0 p q; k_mem)), (by rw [List.length_append]; have q9 := (outK_len hall2).2; omega), Apart.append (hap2.five (by k_mem) (by k_mem) (by k_mem) (by k_mem) (by tb_rel)) (hap.five (by k_mem) (by k_mem) (by k_mem) (by k_mem) (by tb_rel)), rfl⟩))
    · skip
      obtain rfl : j = ops.length := hj.trans hrow.length
      subst hvj
      have e := VS_end ops
      generalize hV : VS ops (ops.length + 1) = V at *
      obtain ⟨mk, K, st, ds⟩ := V
      obtain ⟨rfl, e⟩ := Prod.mk.inj e
      clear e
      dsimp only at *
      have o1 := ow_off hoff (a := dsg) (by k_mem) (by omega)
      have o2 := ow_off hoff (a := lo) (by k_mem) (by omega)
      have o3 := ow_off hoff (a := lm) (by k_mem) (by omega)
      have o4 := ow_off hoff (a := lf) (by k_mem) (by omega)
      k_with "method!" => (k_dflt (refine' method_inst ?k1C ?k2C ?k3C ?k4C ?k5C ?k6C ?k7C ?_); (case k1C => k_asm); (case k2C => k_asm); (case k3C => k_inst); (case k4C => k_is); (case k5C => k_is); (case k6C => k_is); (case k7C => k_get); k_whole)
      k_with "call!" => ((with_reducible show wpAny _ _ (call (Value.ref 532) _) _ _ _); k_dflt (refine' Ctr.use ?kCC ?k1C ?k2C ?k3C ?k4C ?k5C ?kKC ?kdC ?kuC ?_); (case k4C => k_dflt (exact cb_drop (news := (dsg, _) :: (lo, _) :: (lm, _) :: (own ++ (lf, _) :: (pre ++ RB))) (by k_asm) (by tb_rel))); (case kCC => k_dflt (exact step_close w _ sg dsg lm lo vd h1 h2 h3 k1 k2 k3 _ t ms _ nml nmk _ l9 (by k_mem) his (by omega) (by k_all) (by k_all) (by k_all) y1 y2 y3 (hc.sub (fun p hp => by have q := hB0 p hp; k_mem)))); (case k1C => k_asm); (case k2C => k_asm); (case k3C => k_asm); (case k5C => k_asm); (case kKC => first | exact rfl | assumption); (case kdC => ktr_room); (case kuC => ktr_units); intro r9 n9 h9 tk9 F9 N9 p9; (obtain ⟨e8, nk2, e9⟩ := p9; subst e8; subst e9); (try dsimp only); (try k_fold))
      k_with "compareOp NotIn bool ref" => (k_dflt (refine' notin_none ?nNC ?nmC ?_); (case nNC => k_asm); (case nmC => k_mem))
      k_steps
      (rename News _ _ _ _ => lN)
      refine nm 0 _ _ rfl lN ?_
      intro l7 o7 e1 e2; subst e1; subst e2
      rename (_ < l7 ∧ _) => ll7
      have y7 : @Ne Nat l7 lf := Nat.ne_of_gt (allLt_mem ll7.2.2.2 (lf, _) (by k_mem))
      have y8 : Apart [(l7, listOf (List.toArray [v]) 0)] ((dsg, sightO h1 h2 h3 k1 k2 k3 lm lo K t) :: (lo, listOf (List.toArray ms) nml) :: (lm, listOf (List.toArray []) nk2) :: (own ++ (lf, listOf (List.toArray fv) nf) :: (pre ++ RB))) := Apart.cons (ne_cons (Nat.ne_of_lt ll7.1) (ne_cons (Nat.ne_of_lt ll7.2.1) (ne_cons (Nat.ne_of_lt ll7.2.2.1) (fun p hp => Nat.ne_of_lt (allLt_mem ll7.2.2.2 p hp))))) Apart.nil
      k_with "call builtin:list.extend" => (k_dflt (refine' extend_L ((l7, listOf (List.toArray [v]) 0) :: (dsg, sightO h1 h2 h3 k1 k2 k3 lm lo K t) :: (lo, listOf (List.toArray ms) nml) :: (lm, listOf (List.toArray []) nk2) :: (own ++ (pre ++ RB))) ?xFC ?xNC ?xmC ?xkC ?xneC ?xbC ?xyC ?xzC ?xz2C ?_); (case xFC => k_asm); (case xNC => k_asm); (case xmC => k_mem); (case xkC => tb_rel); (case xneC => k_all); (case xbC => k_mem); (case xyC => k_dflt (exact Nat.zero_lt_one)); (case xzC => omega); (case xz2C => k_dflt (exact Nat.le_of_ble_eq_true rfl)); intro h' F' N')
      k_steps
      unfold Held
      refine' TurnP.next (ps' := [((Str.ofString "visible"), .ref vd), ((Str.ofString "sight"), .ref sg), ((Str.ofString "found"), .ref lf)]) (nx' := (lf, listOf (List.toArray (fv ++ [v])) (nf + 1)) :: (dsg, sightO h1 h2 h3 k1 k2 k3 lm lo K t) :: (lo, listOf (List.toArray ms) nml) :: (lm, listOf (List.toArray []) nk2) :: (([(l7, listOf (List.toArray [v]) 0)] ++ pre) ++ RB)) ?tFC ?tNC ?tnC ?tcC ?tkC ?tJC
      (case tFC => k_asm)
      (case tNC => k_asm)
      (case tnC => tb_rel)
      (case tcC => exact offT (pre2 := [(l7, listOf (List.toArray [v]) 0)]) hoff (y8.mono (by tb_rel)))
      (case tkC => tb_start)
      (case tJC => (rw [VS_close, hV]; exact ⟨t, ms, nml, nk2, _, _, _, rfl, his, by omega, (hall.mono fun h => h.sub (by tb_rel)).append (.cons (htc.sub fun p hp => (by have q2 := hB0 p hp; k_mem)) .nil), (by rw [List.length_append, List.length_singleton]; omega), Apart.append (y8.five (by k_mem) (by k_mem) (by k_mem) (by k_mem) (by tb_rel)) (hap.five (by k_mem) (by k_mem) (by k_mem) (by k_mem) (by tb_rel)), rfl⟩))
end
section
set_option hygiene false in
local macro_rules | `(tactic| k_ne) => `(tactic| first | with_reducible assumption | (apply Ne.symm; with_reducible assumption) | ((try dsimp only); first | (with_reducible apply Nat.ne_of_lt; with_reducible assumption) | (with_reducible apply Nat.ne_of_gt; with_reducible assumption)) | (refine neN ?_; (try dsimp only); omega) | ((try dsimp only); refine ne_ltl (by with_reducible assumption) (by k_mem)) | ((try dsimp only); refine ne_ltr (by with_reducible assumption) (by k_mem)) | ((try dsimp only); refine ne_allr (by with_reducible assumption) (by k_mem)) | ((try dsimp only); refine ne_alll (by with_reducible assumption) (by k_mem)))
set_option hygiene false in
local macro_rules | `(tactic| walk_at "exec If") => `(tactic| k_extra "exec If")
set_option hygiene false in
local macro_rules | `(tactic| walk_at "compareOp Eq ref ref") => `(tactic| k_extra "compareOp Eq ref ref")
set_option hygiene false in
local macro_rules | `(tactic| walk_at "call builtin:list.pop") => `(tactic| k_extra "call builtin:list.pop")
set_option hygiene false in
local macro_rules | `(tactic| walk_at "MidP") => `(tactic| ((with_reducible show MidP _ _ _ _ (Flow.next) _); refine held ?_))
-- part Row
theorem row_ok (w : World) (rest : List (Addr × Obj)) (src cl : Addr) (cells : List Value) (ns : List Int) (nc n place : Nat) (t1 t2 : Tok) (r : Int) (m1 : (cl, listOf cells.toArray nc) ∈ rest) (hi : IntsAre cells ns) (hns : 0 < ns.length) (hns2 : ns.length ≤ 100) (hne : ∀ p ∈ rest, p.1 ≠ src) (hr : 0 ≤ r) (hp : place ≤ 800) : Ctr w 582 8 [.ref src] ((src, srcO cl r place t1 t2 n) :: rest) (fun r' n' => ∃ tu nt lf nf fv ld nd dv ops, r' = Value.ref tu ∧ (tu, tupO [.ref lf, .ref ld] nt) ∈ n' ∧ (lf, listOf (List.toArray fv) nf) ∈ n' ∧ (ld, listOf (List.toArray dv) nd) ∈ n' ∧ List.length ops ≤ 8 ∧ All2 (OpK n') fv ops ∧ All2 (DatIn n') dv (runOf ops).out ∧ dv.length ≤ 24 ∧ (∀ p ∈ rest, p ∈ n')) := by
  unfold Ctr
  k_fill
  k_with_none
  intros; rename_i hret
  refine (let A9 : Around := _; (?_ : wpAny _ A9 _ _ _ _))
  refine wpAny_call ?_
  k_dflt (refine' code_def ?k1 ?k2 ?k3 ?k4 ?k5 ?kA ?kF ?kK ?k6 ?k7 ?k8 ?k9 ?kB ?_ ?c2 ?c3 ?c4 ?c5; (case kA => exact rfl); (case kF => exact rfl); (case kK => first | assumption | exact rfl); (case k1 => k_asm); (case k2 => k_asm); (case k3 => k_asm); (case k4 => k_asm); (case k5 => k_asm); (case k6 => k_is); (case k7 => k_is); (case k8 => ktr_room); (case k9 => first | exact BindsTo.of_eq rfl | exact binds_K (by k_in) rfl (by k_is) rfl rfl rfl); (case c5 => decide); (case kB => exact locs rfl); (case c2 => exact rfl); (case c3 => exact rfl); (case c4 => exact rfl); k_whole; intro g' L' h' FG' F' N' B' X' T'; (try dsimp only); (try k_lift B'); (try k_fold))
  refine (let B9 : Around := _; (?_ : wpAny _ B9 _ _ _ _))
  (rename Fr _ _ _ _ => lF)
  replace lF := fr_fold [((Str.ofString "source"), .ref src)] lF (by tb_start)
  obtain ⟨u, lF⟩ := lF
  dsimp only [kstB] at lF
  k_with_none
  k_with "call!" => ((with_reducible show wpAny _ _ (call (Value.ref 565) _) _ _ _); k_dflt (refine' Ctr.use ?kC ?k1 ?k2 ?k3 ?k4 ?k5 ?kK ?kd ?ku ?_); (case k4 => k_dflt (exact PullAt.news src (by k_asm) (by kt_at_item))); (case kC => k_dflt (exact take_ok w _ src cl cells ns nc _ _ _ _ _ _ _ (by k_mem) hi hns hns2 (by k_all) (by assumption) (by omega) (by decide) (by decide))); (case k1 => k_asm); (case k2 => k_asm); (case k3 => k_asm); (case k5 => k_asm); (case kK => first | exact rfl | assumption); (case kd => ktr_room); (case ku => ktr_units); intro ra na ha tka Fa Na pa; (obtain ⟨va, tva, ra, t3a, t4a, n2a, e8, hv0a, hv1a, hra, e9⟩ := pa; subst e8; subst e9; have hv2a := heldI hv1a; clear hv1a); (try dsimp only); (try k_fold))
  wrow_steps
  unfold Held
  refine abs_int hv0a hv2a ?_
  intro nv hnv eva
  subst eva
  (rename Fr _ _ _ _ => lF); (rename News _ _ _ _ => lN)
  refine nm 4 _ _ rfl lN ?_
  intro lf olf e1 e2; subst e1; subst e2
  refine nm 3 _ _ rfl lN ?_
  intro ld old e1 e2; subst e1; subst e2
  refine nm 2 _ _ rfl lN ?_
  intro lh olh e1 e2; subst e1; subst e2
  rename (src < lf ∧ _) => llf
  have y1 : @Ne Nat src lf := by omega
  have y2 : @Ne Nat src ld := by omega
  have y3 : @Ne Nat src lh := by omega
  have y4 : @Ne Nat lf ld := by omega
  have y5 : @Ne Nat lf lh := by omega
  have y6 : @Ne Nat ld lh := by omega
  have rl : ∀ p ∈ rest, @LT.lt Nat _ p.1 lf := allLt_mem llf.2
  have rb1 : ∀ p ∈ rest, p.1 ≠ lf := fun p hp => Nat.ne_of_lt (rl p hp)
  have rb2 : ∀ p ∈ rest, p.1 ≠ ld := fun p hp => Nat.ne_of_lt (Nat.lt_trans (rl p hp) (by omega))
  have rb3 : ∀ p ∈ rest, p.1 ≠ lh := fun p hp => Nat.ne_of_lt (Nat.lt_trans (rl p hp) (by omega))
  replace lN := cb_drop (news := (src, srcO cl ra (place + 1) t3a t4a n2a) :: (lf, listOf (List.toArray []) 0) :: (ld, listOf (List.toArray []) 0) :: (lh, listOf (List.toArray []) 0) :: ([] ++ rest)) lN (by tb_rel)
  with_unfolding_all refine' range_rule2 (n := nv) (ps₀ := [((Str.ofString "source"), .ref src), ((Str.ofString "found"), .ref lf), ((Str.ofString "due"), .ref ld), ((Str.ofString "held"), .ref lh), ((Str.ofString "mode"), .int 0 _)]) (fun i ps nx => ∃ ops r1 pl t3 t4 n2 t ms nh fv nf dv nd pre, List.length ops = i ∧ (src, srcO cl r1 pl t3 t4 n2) :: (lf, listOf (List.toArray fv) nf) :: (ld, listOf (List.toArray dv) nd) :: (lh, listOf (List.toArray ms) nh) :: (pre ++ rest) = nx ∧ 0 ≤ r1 ∧ pl ≤ place + 1 + 2 * i ∧ IntsAre ms (runOf ops).st ∧ ms.length ≤ i ∧ All2 (OpK pre) fv ops ∧ All2 (DatIn pre) dv (runOf ops).out ∧ dv.length ≤ 3 * i ∧ Apart pre ((src, srcO cl r1 pl t3 t4 n2) :: (lf, listOf (List.toArray fv) nf) :: (ld, listOf (List.toArray dv) nd) :: (lh, listOf (List.toArray ms) nh) :: rest) ∧ [((Str.ofString "source"), .ref src), ((Str.ofString "found"), .ref lf), ((Str.ofString "due"), .ref ld), ((Str.ofString "held"), .ref lh), ((Str.ofString "mode"), .int (runOf ops).k t)] = ps) (by rfl) ?rI (range_zero nv (by omega)).1 (range_zero nv (by omega)).2 lF lN (by tb_start) ?j0 ?turn ?done
  case rI => assumption
  case j0 => exact ⟨[], _, _, _, _, _, _, [], 0, [], 0, [], 0, [], rfl, rfl, hra, by omega, .nil, by simp, .nil, .nil, by simp, Apart.nil, rfl⟩
  case done =>
    clear lF lN
    k_with_none
    intro ps nx u h tk hJ F N
    obtain ⟨ops, r1, pl, t3, t4, n2, t, ms, nh, fv, nf, dv, nd, pre, eops, e1, hr1, hpl, his, hml, hfv, hdv, hdl, hap, e2⟩ := hJ
    subst e1; subst e2
    dsimp only [kstB, envOf] at F N
    wrow_steps
    all_goals (refine' hret _ _ _ _ ?e1 ?e2 ?e3; (case e1 => k_asm); (case e2 => k_asm); (case e3 => exact ⟨_, _, lf, nf, fv, ld, nd, dv, ops, rfl, by k_mem, by k_mem, by k_mem, by omega, hfv.mono fun h => h.sub (by tb_rel), hdv.mono fun h => h.mono (by tb_rel), by omega, by tb_rel⟩))
  case turn =>
    clear lF lN
    intro i t' ps nx u h tk own hin hJ hoff F N
    k_with_none
    obtain ⟨ops, r1, pl, t3, t4, n2, t, ms, nh, fv, nf, dv, nd, pre, eops, e1, hr1, hpl, his, hml, hfv, hdv, hdl, hap, e2⟩ := hJ
    subst e1; subst e2
    dsimp only [kstB, envOf] at F N hoff
    have hfl : fv.length ≤ 9 := by rw [hfv.length]; omega
    generalize hS : runOf ops = R at *
    obtain ⟨k, st, ds⟩ := R
    dsimp only at *
    k_with "call!" => ((with_reducible show wpAny _ _ (call (Value.ref 565) _) _ _ _); k_dflt (refine' Ctr.use ?kC ?k1 ?k2 ?k3 ?k4 ?k5 ?kK ?kd ?ku ?_); (case k4 => k_dflt (exact PullAt.news src (by k_asm) (by kt_at_item))); (case kC => k_dflt (exact take_ok w _ src cl cells ns nc _ _ _ _ _ _ _ (by k_mem) hi hns hns2 (by k_all) (by assumption) (by omega) (by decide) (by decide))); (case k1 => k_asm); (case k2 => k_asm); (case k3 => k_asm); (case k5 => k_asm); (case kK => first | exact rfl | assumption); (case kd => ktr_room); (case ku => ktr_units); intro rb nb hb tkb Fb Nb pb; (obtain ⟨vb, tvb, rb, t3b, t4b, n2b, e8, hv0b, hv1b, hrb, e9⟩ := pb; subst e8; subst e9); (try dsimp only); (try k_fold))
    k_with "call!" => ((have q9 := hv0b); clear q9; (with_reducible show wpAny _ _ (call (Value.ref 565) _) _ _ _); k_dflt (refine' Ctr.use ?kC ?k1 ?k2 ?k3 ?k4 ?k5 ?kK ?kd ?ku ?_); (case k4 => k_dflt (exact PullAt.news src (by k_asm) (by kt_at_item))); (case kC => k_dflt (exact take_ok w _ src cl cells ns nc _ _ _ _ _ _ _ (by k_mem) hi hns hns2 (by k_all) (by assumption) (by omega) (by decide) (by decide))); (case k1 => k_asm); (case k2 => k_asm); (case k3 => k_asm); (case k5 => k_asm); (case kK => first | exact rfl | assumption); (case kd => ktr_room); (case ku => ktr_units); intro rc nc hc tkc Fc Nc pc; (obtain ⟨vc, tvc, rc, t3c, t4c, n2c, e8, hv0c, hv1c, hrc, e9⟩ := pc; subst e8; subst e9); (try dsimp only); (try k_fold))
    k_with "call!" => ((with_reducible show wpAny _ _ (call (Value.ref 212) _) _ _ _); k_dflt (refine' Ctr.use ?kC ?k1 ?k2 ?k3 ?k4 ?k5 ?kK ?kd ?ku ?_); (case k4 => k_asm); (case kC => k_dflt (exact string_mk w _ _ _)); (case k1 => k_asm); (case k2 => k_asm); (case k3 => k_asm); (case k5 => k_asm); (case kK => first | exact rfl | assumption); (case kd => ktr_room); (case ku => ktr_units); intro rg ng hg tkg Fg Ng pg; (obtain ⟨preg, e8, hng, hag⟩ := pg; subst e8); (try dsimp only); (try k_fold))
    k_with "call!" => ((with_reducible show wpAny _ _ (call (Value.ref 401) _) _ _ _); k_dflt (refine' Ctr.use ?kC ?k1 ?k2 ?k3 ?k4 ?k5 ?kK ?kd ?ku ?_); (case k4 => k_asm); (case kC => k_dflt (exact op_mk w _ _ _ _)); (case k1 => k_asm); (case k2 => k_asm); (case k3 => k_asm); (case k5 => k_asm); (case kK => first | exact rfl | assumption); (case kd => ktr_room); (case ku => ktr_units); intro rf nf hf tkf Ff Nf pf; (obtain ⟨pref, e8, hnf, haf⟩ := pf; subst e8); (try dsimp only); (try k_fold))
    k_with "exec If" => (refine held ?_)
    wrow_steps
    k_with_none
    unfold Held
    refine name_op hnf ?_
    intro lx elx
    subst elx
    (rename Fr _ _ _ _ => lF); (rename News _ _ _ _ => lN)
    refine abs_list (pref ++ (lx, listOf (List.toArray [rg]) 0) :: preg) ?_
    intro QT eQT
    have hQT : OpK QT rf .tj := by
      rw [eQT]
      exact .mkT (hnf.sub (by tb_rel)) (by k_mem) (hng.sub (by tb_rel))
    have haQ : Apart QT ((src, srcO cl rc (pl + 1 + 1) t3c t4c n2c) :: (own ++ (lf, listOf (List.toArray fv) nf) :: (ld, listOf (List.toArray dv) nd) :: (lh, listOf (List.toArray ms) nh) :: (pre ++ rest))) := by
      rw [eQT]
      exact Apart.append (haf.mono (by tb_rel)) (Apart.cons (by first | exact NeAll.to (NeAll.all (by with_reducible assumption) (by kt_at_notin)) | exact NeAll.to (NeAll.lt (by with_reducible assumption) (by kt_at_notin))) (hag.mono (by tb_rel)))
    replace lN := cb_drop (news := QT ++ (src, srcO cl rc (pl + 1 + 1) t3c t4c n2c) :: (own ++ (lf, listOf (List.toArray fv) nf) :: (ld, listOf (List.toArray dv) nd) :: (lh, listOf (List.toArray ms) nh) :: (pre ++ rest))) lN (by rw [eQT]; tb_rel)
    clear eQT
    refine' mid_rule lF (fun ps nx => ∃ v o Q2 t2 ms2 nh2, (src, srcO cl rc (pl + 1 + 1) t3c t4c n2c) :: (lf, listOf (List.toArray fv) nf) :: (ld, listOf (List.toArray dv) nd) :: (lh, listOf (List.toArray ms2) nh2) :: (own ++ (Q2 ++ (pre ++ rest))) = nx ∧ OpK Q2 v o ∧ IntsAre ms2 (modeAfter o k st).2 ∧ ms2.length ≤ i + 1 ∧ Apart Q2 ((src, srcO cl rc (pl + 1 + 1) t3c t4c n2c) :: (lf, listOf (List.toArray fv) nf) :: (ld, listOf (List.toArray dv) nd) :: (lh, listOf (List.toArray ms) nh) :: (own ++ (pre ++ rest))) ∧ [((Str.ofString "source"), .ref src), ((Str.ofString "found"), .ref lf), ((Str.ofString "due"), .ref ld), ((Str.ofString "held"), .ref lh), ((Str.ofString "mode"), .int (modeAfter o k st).1 t2), ((Str.ofString "one"), v)] = ps) ?br ?tail
    case tail =>
      clear lF lN
      intro h tk u ps nx F N hJ2
      obtain ⟨v, o, Q2, t2, ms2, nh2, e1, hov, his2, hml2, haq, e2⟩ := hJ2
      subst e1; subst e2
      dsimp only [kstB] at F
      generalize hM : modeAfter o k st = M at *
      obtain ⟨k2, st2⟩ := M
      dsimp only at *
      have hR := run_next hS hM
      obtain ⟨x, l8, vs8, n8, ds8, ho8, hl8, hos8, hlen8, hd8⟩ := hov.told
      have ho9 := ho8
      obtain ⟨a, da, g1, j1, t1', g2, j2, c9, ev, mm1, mm2⟩ := ho9
      subst ev
      k_with_none
      k_with "method!" => ((with_reducible show wpAny _ _ (PySem.getMethod _ (PySem.Str.ofString "told") _) _ _ _); k_dflt (refine' method_inst ?k1 ?k2 ?k3 ?k4 ?k5 ?k6 ?k7 ?_); (case k1 => k_asm); (case k2 => k_asm); (case k3 => k_inst); (case k4 => k_is); (case k5 => k_is); (case k6 => k_is); (case k7 => k_get); k_whole)
      k_with "call builtin:list.append" => (k_dflt (refine' append_L ((src, srcO cl rc (pl + 1 + 1) t3c t4c n2c) :: (ld, listOf (List.toArray dv) nd) :: (lh, listOf (List.toArray ms2) nh2) :: (own ++ (Q2 ++ (pre ++ rest)))) ?aF ?aN ?am ?ak ?ane ?az ?_); (case aF => k_asm); (case aN => k_asm); (case am => k_mem); (case ak => tb_rel); (case ane => k_all); (case az => omega); intro h' F' N')
      by_cases hot : o = .tj
      · subst hot
        obtain rfl := word_tj hd8
        cases hh : hidden k2 with
        | true =>
          have h37 := any_hid hh
          k_with "call!" => ((with_reducible show wpAny _ _ (call (Value.ref 398) _) _ _ _); k_dflt (refine' Ctr.use ?kCH ?k1H ?k2H ?k3H ?k4H ?k5H ?kKH ?kdH ?kuH ?_); (case k4H => k_asm); (case kCH => k_dflt (exact optold_ok w _ (.ref a) _ l8 vs8 n8 ds8 (ho8.sub (by tb_rel)) (by k_mem) (hos8.sub (by tb_rel)) hlen8)); (case k1H => k_asm); (case k2H => k_asm); (case k3H => k_asm); (case k5H => k_asm); (case kKH => first | exact rfl | assumption); (case kdH => ktr_room); (case kuH => ktr_units); intro r7 n7 h7 tk7 F7 N7 p7; (obtain ⟨pre7, e8, hd7, ha7⟩ := p7; subst e8); (try dsimp only); (try k_fold))
          k_with "call builtin:list.extend" => (refine held ?_)
          wrow_steps
          (rename News _ _ _ _ => lN)
          refine nm 0 _ _ rfl lN ?_
          intro ll oll e1 e2; subst e1; subst e2
          k_with "call builtin:list.extend" => (k_dflt (refine' extend_L ((ll, listOf (List.toArray [r7]) 0) :: (pre7 ++ (lf, listOf (List.toArray (fv ++ [Value.ref a])) (nf + 1)) :: (src, srcO cl rc (pl + 1 + 1) t3c t4c n2c) :: (lh, listOf (List.toArray ms2) nh2) :: (own ++ (Q2 ++ (pre ++ rest))))) ?xFH ?xNH ?xmH ?xkH ?xneH ?xbH ?xyH ?xzH ?xz2H ?_); (case xFH => k_asm); (case xNH => k_asm); (case xmH => k_mem); (case xkH => tb_rel); (case xneH => k_all); (case xbH => k_mem); (case xyH => k_dflt (exact Nat.succ_pos _)); (case xzH => omega); (case xz2H => k_dflt (exact Nat.le_of_ble_eq_true rfl)); intro h' F' N')
          unfold Held
          wrow_steps
          unfold Held
          refine' TurnP.next (ps' := [((Str.ofString "source"), .ref src), ((Str.ofString "found"), .ref lf), ((Str.ofString "due"), .ref ld), ((Str.ofString "held"), .ref lh), ((Str.ofString "mode"), .int k2 t2)]) (nx' := (src, srcO cl rc (pl + 1 + 1) t3c t4c n2c) :: (lf, listOf (List.toArray (fv ++ [Value.ref a])) (nf + 1)) :: (ld, listOf (List.toArray (dv ++ [r7])) (nd + 1)) :: (lh, listOf (List.toArray ms2) nh2) :: (((pre7 ++ Q2) ++ pre) ++ rest)) ?tFH ?tNH ?tnH ?tcH ?tkH ?tJH
          (case tFH => k_asm)
          (case tNH => k_asm)
          (case tnH => tb_rel)
          (case tcH => refine offP (X := fun _ => False) ?_; exact Apart.consr (by k_all) (Apart.consr (by k_all) (Apart.consr (by k_all) (Apart.consr (by k_all) (Apart.appr (Apart.appr (Apart.appr (ha7.mono (by tb_rel)).symm (haq.mono (by tb_rel)).symm) (hoff.mono (by tb_rel))) (hoff.mono (by tb_rel)))))))
          (case tkH => tb_start)
          (case tJH => exact ⟨ops ++ [_], rc, pl + 1 + 1, t3c, t4c, n2c, t2, ms2, nh2, _, _, _, _, (pre7 ++ Q2) ++ pre, (by rw [List.length_append, List.length_singleton, eops]), rfl, hrc, by omega, (by rw [hR]; exact his2), hml2, (hfv.mono fun h => h.sub (by tb_rel)).append (.cons (hov.sub (by tb_rel)) .nil), (by rw [hR]; exact (hdv.mono fun h => h.mono (by tb_rel)).append (by rw [outK_hid hh, hd8]; exact .cons (hd7.mono (by tb_rel)) .nil)), (by rw [List.length_append]; simp only [List.length_cons, List.length_nil]; omega), Apart.consr (by k_all) (Apart.consr (by k_all) (Apart.consr (by k_all) (Apart.consr (by k_all) (Apart.append (Apart.append (ha7.mono (by tb_rel)) (haq.mono (by tb_rel))) (hap.mono (by tb_rel)))))), (by rw [hR])⟩)
        | false =>
          have h37 := any_vis hh
          by_cases h4 : k2 < 4
          · skip
            k_with_none
            k_with "method!" => ((with_reducible show wpAny _ _ (PySem.getMethod _ (PySem.Str.ofString "told") _) _ _ _); k_dflt (refine' method_inst ?k1P ?k2P ?k3P ?k4P ?k5P ?k6P ?k7P ?_); (case k1P => k_asm); (case k2P => k_asm); (case k3P => k_inst); (case k4P => k_is); (case k5P => k_is); (case k6P => k_is); (case k7P => k_get); k_whole)
            k_with "call builtin:list.append" => (k_dflt (refine' append_L ((src, srcO cl rc (pl + 1 + 1) t3c t4c n2c) :: (ld, listOf (List.toArray dv) nd) :: (lh, listOf (List.toArray ms2) nh2) :: (own ++ (Q2 ++ (pre ++ rest)))) ?aFP ?aNP ?amP ?akP ?aneP ?azP ?_); (case aFP => k_asm); (case aNP => k_asm); (case amP => k_mem); (case akP => tb_rel); (case aneP => k_all); (case azP => omega); intro h' F' N')
            wrow_steps
            unfold Held
            (rename News _ _ _ _ => lN)
            refine nm 0 _ _ rfl lN ?_
            intro tA oA e1 e2; subst e1; subst e2
            refine nm 1 _ _ rfl lN ?_
            intro tA2 oA2 e1 e2; subst e1; subst e2
            refine nm 2 _ _ rfl lN ?_
            intro tA1 oA1 e1 e2; subst e1; subst e2
            rename (_ < tA ∧ _) => lA
            rename (_ < tA2 ∧ _) => lA2
            rename (_ < tA1 ∧ _) => lA1
            refine first3 lN ?_
            intro PA ePA
            have hdA : DatIn PA (.ref tA) (trDat (otherMode k2)) := (by rw [ePA]; unfold trDat; rw [otherMode, if_pos h4]; exact .tuple (by k_mem) (.cons (.str _ _) (.cons (.tuple (by k_mem) (.cons (.tuple (by k_mem) (.cons (.str _ _) (.cons (.int _ _) .nil))) .nil)) .nil)))
            have haA : Apart PA ((lf, listOf (List.toArray (fv ++ [Value.ref a])) (nf + 1)) :: (src, srcO cl rc (pl + 1 + 1) t3c t4c n2c) :: (ld, listOf (List.toArray dv) nd) :: (lh, listOf (List.toArray ms2) nh2) :: (own ++ (Q2 ++ (pre ++ rest)))) := by
              rw [ePA]
              exact Apart.cons (ap_chain lA.2.2.2) (Apart.cons (ap_chain lA2.2.2) (Apart.cons (ap_chain lA1.2) Apart.nil))
            replace lN := cb_drop (news := PA ++ (lf, listOf (List.toArray (fv ++ [Value.ref a])) (nf + 1)) :: (src, srcO cl rc (pl + 1 + 1) t3c t4c n2c) :: (ld, listOf (List.toArray dv) nd) :: (lh, listOf (List.toArray ms2) nh2) :: (own ++ (Q2 ++ (pre ++ rest)))) lN (by rw [ePA]; tb_rel)
            clear ePA
            k_with "call!" => ((with_reducible show wpAny _ _ (call (Value.ref 398) _) _ _ _); k_dflt (refine' Ctr.use ?kCP ?k1P ?k2P ?k3P ?k4P ?k5P ?kKP ?kdP ?kuP ?_); (case k4P => k_asm); (case kCP => k_dflt (exact optold_ok w _ (.ref a) _ l8 vs8 n8 ds8 (ho8.sub (by tb_rel)) (by k_mem) (hos8.sub (by tb_rel)) hlen8)); (case k1P => k_asm); (case k2P => k_asm); (case k3P => k_asm); (case k5P => k_asm); (case kKP => first | exact rfl | assumption); (case kdP => ktr_room); (case kuP => ktr_units); intro r7 n7 h7 tk7 F7 N7 p7; (obtain ⟨pre7, e8, hd7, ha7⟩ := p7; subst e8); (try dsimp only); (try k_fold))
            k_with "call builtin:list.extend" => (refine held ?_)
            wrow_steps
            (rename News _ _ _ _ => lN)
            refine nm 0 _ _ rfl lN ?_
            intro ll oll e1 e2; subst e1; subst e2
            refine nm 1 _ _ rfl lN ?_
            intro tB oB e1 e2; subst e1; subst e2
            refine nm 2 _ _ rfl lN ?_
            intro tB2 oB2 e1 e2; subst e1; subst e2
            refine nm 3 _ _ rfl lN ?_
            intro tB1 oB1 e1 e2; subst e1; subst e2
            rename (_ < tB ∧ _) => lB
            rename (_ < tB2 ∧ _) => lB2
            rename (_ < ll ∧ _) => lL
            rename (∀ (p : Addr × Obj), p ∈ _ → p.1 < tB1) => lB1
            refine first4 lN ?_
            intro PB ePB
            have hdB : DatIn PB (.ref tB) (trDat k2) := (by rw [ePB]; unfold trDat; exact .tuple (by k_mem) (.cons (.str _ _) (.cons (.tuple (by k_mem) (.cons (.tuple (by k_mem) (.cons (.str _ _) (.cons (.int _ _) .nil))) .nil)) .nil)))
            have haB : Apart PB (pre7 ++ (PA ++ (lf, listOf (List.toArray (fv ++ [Value.ref a])) (nf + 1)) :: (src, srcO cl rc (pl + 1 + 1) t3c t4c n2c) :: (ld, listOf (List.toArray dv) nd) :: (lh, listOf (List.toArray ms2) nh2) :: (own ++ (Q2 ++ (pre ++ rest))))) := by
              rw [ePB]
              exact Apart.cons (ap_all lB.2.2) (Apart.cons (ap_all lB2.2) (Apart.cons (ap_one lB1) Apart.nil))
            have hll : ∀ p ∈ (pre7 ++ (PA ++ (lf, listOf (List.toArray (fv ++ [Value.ref a])) (nf + 1)) :: (src, srcO cl rc (pl + 1 + 1) t3c t4c n2c) :: (ld, listOf (List.toArray dv) nd) :: (lh, listOf (List.toArray ms2) nh2) :: (own ++ (Q2 ++ (pre ++ rest))))), p.1 ≠ ll := ap_all lL.2.2.2
            have hll2 : @Ne Nat ll ld := fun e => hll (ld, _) (by k_mem) e.symm
            replace lN := cb_drop (news := (ll, listOf (List.toArray [Value.ref tA, r7, Value.ref tB]) 0) :: (PB ++ (pre7 ++ (PA ++ (lf, listOf (List.toArray (fv ++ [Value.ref a])) (nf + 1)) :: (src, srcO cl rc (pl + 1 + 1) t3c t4c n2c) :: (ld, listOf (List.toArray dv) nd) :: (lh, listOf (List.toArray ms2) nh2) :: (own ++ (Q2 ++ (pre ++ rest))))))) lN (by rw [ePB]; tb_rel)
            clear ePB
            k_with "call builtin:list.extend" => (k_dflt (refine' extend_L ((ll, listOf (List.toArray [Value.ref tA, r7, Value.ref tB]) 0) :: ((PB ++ (pre7 ++ PA)) ++ (lf, listOf (List.toArray (fv ++ [Value.ref a])) (nf + 1)) :: (src, srcO cl rc (pl + 1 + 1) t3c t4c n2c) :: (lh, listOf (List.toArray ms2) nh2) :: (own ++ (Q2 ++ (pre ++ rest))))) ?xFP ?xNP ?xmP ?xkP ?xneP ?xbP ?xyP ?xzP ?xz2P ?_); (case xFP => k_asm); (case xNP => k_asm); (case xmP => k_mem); (case xkP => tb_rel); (case xneP => k_all); (case xbP => k_mem); (case xyP => k_dflt (exact Nat.succ_pos _)); (case xzP => omega); (case xz2P => k_dflt (exact Nat.le_of_ble_eq_true rfl)); intro h' F' N')
            unfold Held
            wrow_steps
            unfold Held
            refine' TurnP.next (ps' := [((Str.ofString "source"), .ref src), ((Str.ofString "found"), .ref lf), ((Str.ofString "due"), .ref ld), ((Str.ofString "held"), .ref lh), ((Str.ofString "mode"), .int k2 t2)]) (nx' := (src, srcO cl rc (pl + 1 + 1) t3c t4c n2c) :: (lf, listOf (List.toArray (fv ++ [Value.ref a])) (nf + 1)) :: (ld, listOf (List.toArray (dv ++ [Value.ref tA, r7, Value.ref tB])) (nd + 1)) :: (lh, listOf (List.toArray ms2) nh2) :: ((((PB ++ (pre7 ++ PA)) ++ Q2) ++ pre) ++ rest)) ?tFP ?tNP ?tnP ?tcP ?tkP ?tJP
            (case tFP => k_asm)
            (case tNP => k_asm)
            (case tnP => tb_rel)
            (case tcP => refine offP (X := fun _ => False) ?_; exact Apart.consr (by k_all) (Apart.consr (by k_all) (Apart.consr (by k_all) (Apart.consr (by k_all) (Apart.appr (Apart.appr (Apart.appr (Apart.append (haB.mono (by tb_rel)) (Apart.append (ha7.mono (by tb_rel)) (haA.mono (by tb_rel)))).symm (haq.mono (by tb_rel)).symm) (hoff.mono (by tb_rel))) (hoff.mono (by tb_rel)))))))
            (case tkP => tb_start)
            (case tJP => exact ⟨ops ++ [_], rc, pl + 1 + 1, t3c, t4c, n2c, t2, ms2, nh2, _, _, _, _, ((PB ++ (pre7 ++ PA)) ++ Q2) ++ pre, (by rw [List.length_append, List.length_singleton, eops]), rfl, hrc, by omega, (by rw [hR]; exact his2), hml2, (hfv.mono fun h => h.sub (by tb_rel)).append (.cons (hov.sub (by tb_rel)) .nil), (by rw [hR]; exact (hdv.mono fun h => h.mono (by tb_rel)).append (by rw [outK_vis hh, hd8]; exact .cons (hdA.mono (by tb_rel)) (.cons (hd7.mono (by tb_rel)) (.cons (hdB.mono (by tb_rel)) .nil)))), (by rw [List.length_append]; simp only [List.length_cons, List.length_nil]; omega), Apart.consr (by k_all) (Apart.consr (by k_all) (Apart.consr (by k_all) (Apart.consr (by k_all) (Apart.append (Apart.append (Apart.append (haB.mono (by tb_rel)) (Apart.append (ha7.mono (by tb_rel)) (haA.mono (by tb_rel)))) (haq.mono (by tb_rel))) (hap.mono (by tb_rel)))))), (by rw [hR])⟩)
          · skip
            k_with_none
            k_with "method!" => ((with_reducible show wpAny _ _ (PySem.getMethod _ (PySem.Str.ofString "told") _) _ _ _); k_dflt (refine' method_inst ?k1N ?k2N ?k3N ?k4N ?k5N ?k6N ?k7N ?_); (case k1N => k_asm); (case k2N => k_asm); (case k3N => k_inst); (case k4N => k_is); (case k5N => k_is); (case k6N => k_is); (case k7N => k_get); k_whole)
            k_with "call builtin:list.append" => (k_dflt (refine' append_L ((src, srcO cl rc (pl + 1 + 1) t3c t4c n2c) :: (ld, listOf (List.toArray dv) nd) :: (lh, listOf (List.toArray ms2) nh2) :: (own ++ (Q2 ++ (pre ++ rest)))) ?aFN ?aNN ?amN ?akN ?aneN ?azN ?_); (case aFN => k_asm); (case aNN => k_asm); (case amN => k_mem); (case akN => tb_rel); (case aneN => k_all); (case azN => omega); intro h' F' N')
            wrow_steps
            unfold Held
            (rename News _ _ _ _ => lN)
            refine nm 0 _ _ rfl lN ?_
            intro tA oA e1 e2; subst e1; subst e2
            refine nm 1 _ _ rfl lN ?_
            intro tA2 oA2 e1 e2; subst e1; subst e2
            refine nm 2 _ _ rfl lN ?_
            intro tA1 oA1 e1 e2; subst e1; subst e2
            rename (_ < tA ∧ _) => lA
            rename (_ < tA2 ∧ _) => lA2
            rename (_ < tA1 ∧ _) => lA1
            refine first3 lN ?_
            intro PA ePA
            have hdA : DatIn PA (.ref tA) (trDat (otherMode k2)) := (by rw [ePA]; unfold trDat; rw [otherMode, if_neg h4]; exact .tuple (by k_mem) (.cons (.str _ _) (.cons (.tuple (by k_mem) (.cons (.tuple (by k_mem) (.cons (.str _ _) (.cons (.int _ _) .nil))) .nil)) .nil)))
            have haA : Apart PA ((lf, listOf (List.toArray (fv ++ [Value.ref a])) (nf + 1)) :: (src, srcO cl rc (pl + 1 + 1) t3c t4c n2c) :: (ld, listOf (List.toArray dv) nd) :: (lh, listOf (List.toArray ms2) nh2) :: (own ++ (Q2 ++ (pre ++ rest)))) := by
              rw [ePA]
              exact Apart.cons (ap_chain lA.2.2.2) (Apart.cons (ap_chain lA2.2.2) (Apart.cons (ap_chain lA1.2) Apart.nil))
            replace lN := cb_drop (news := PA ++ (lf, listOf (List.toArray (fv ++ [Value.ref a])) (nf + 1)) :: (src, srcO cl rc (pl + 1 + 1) t3c t4c n2c) :: (ld, listOf (List.toArray dv) nd) :: (lh, listOf (List.toArray ms2) nh2) :: (own ++ (Q2 ++ (pre ++ rest)))) lN (by rw [ePA]; tb_rel)
            clear ePA
            k_with "call!" => ((with_reducible show wpAny _ _ (call (Value.ref 398) _) _ _ _); k_dflt (refine' Ctr.use ?kCN ?k1N ?k2N ?k3N ?k4N ?k5N ?kKN ?kdN ?kuN ?_); (case k4N => k_asm); (case kCN => k_dflt (exact optold_ok w _ (.ref a) _ l8 vs8 n8 ds8 (ho8.sub (by tb_rel)) (by k_mem) (hos8.sub (by tb_rel)) hlen8)); (case k1N => k_asm); (case k2N => k_asm); (case k3N => k_asm); (case k5N => k_asm); (case kKN => first | exact rfl | assumption); (case kdN => ktr_room); (case kuN => ktr_units); intro r7 n7 h7 tk7 F7 N7 p7; (obtain ⟨pre7, e8, hd7, ha7⟩ := p7; subst e8); (try dsimp only); (try k_fold))
            k_with "call builtin:list.extend" => (refine held ?_)
            wrow_steps
            (rename News _ _ _ _ => lN)
            refine nm 0 _ _ rfl lN ?_
            intro ll oll e1 e2; subst e1; subst e2
            refine nm 1 _ _ rfl lN ?_
            intro tB oB e1 e2; subst e1; subst e2
            refine nm 2 _ _ rfl lN ?_
            intro tB2 oB2 e1 e2; subst e1; subst e2
            refine nm 3 _ _ rfl lN ?_
            intro tB1 oB1 e1 e2; subst e1; subst e2
            rename (_ < tB ∧ _) => lB
            rename (_ < tB2 ∧ _) => lB2
            rename (_ < ll ∧ _) => lL
            rename (∀ (p : Addr × Obj), p ∈ _ → p.1 < tB1) => lB1
            refine first4 lN ?_
            intro PB ePB
            have hdB : DatIn PB (.ref tB) (trDat k2) := (by rw [ePB]; unfold trDat; exact .tuple (by k_mem) (.cons (.str _ _) (.cons (.tuple (by k_mem) (.cons (.tuple (by k_mem) (.cons (.str _ _) (.cons (.int _ _) .nil))) .nil)) .nil)))
            have haB : Apart PB (pre7 ++ (PA ++ (lf, listOf (List.toArray (fv ++ [Value.ref a])) (nf + 1)) :: (src, srcO cl rc (pl + 1 + 1) t3c t4c n2c) :: (ld, listOf (List.toArray dv) nd) :: (lh, listOf (List.toArray ms2) nh2) :: (own ++ (Q2 ++ (pre ++ rest))))) := by
              rw [ePB]
              exact Apart.cons (ap_all lB.2.2) (Apart.cons (ap_all lB2.2) (Apart.cons (ap_one lB1) Apart.nil))
            have hll : ∀ p ∈ (pre7 ++ (PA ++ (lf, listOf (List.toArray (fv ++ [Value.ref a])) (nf + 1)) :: (src, srcO cl rc (pl + 1 + 1) t3c t4c n2c) :: (ld, listOf (List.toArray dv) nd) :: (lh, listOf (List.toArray ms2) nh2) :: (own ++ (Q2 ++ (pre ++ rest))))), p.1 ≠ ll := ap_all lL.2.2.2
            have hll2 : @Ne Nat ll ld := fun e => hll (ld, _) (by k_mem) e.symm
            replace lN := cb_drop (news := (ll, listOf (List.toArray [Value.ref tA, r7, Value.ref tB]) 0) :: (PB ++ (pre7 ++ (PA ++ (lf, listOf (List.toArray (fv ++ [Value.ref a])) (nf + 1)) :: (src, srcO cl rc (pl + 1 + 1) t3c t4c n2c) :: (ld, listOf (List.toArray dv) nd) :: (lh, listOf (List.toArray ms2) nh2) :: (own ++ (Q2 ++ (pre ++ rest))))))) lN (by rw [ePB]; tb_rel)
            clear ePB
            k_with "call builtin:list.extend" => (k_dflt (refine' extend_L ((ll, listOf (List.toArray [Value.ref tA, r7, Value.ref tB]) 0) :: ((PB ++ (pre7 ++ PA)) ++ (lf, listOf (List.toArray (fv ++ [Value.ref a])) (nf + 1)) :: (src, srcO cl rc (pl + 1 + 1) t3c t4c n2c) :: (lh, listOf (List.toArray ms2) nh2) :: (own ++ (Q2 ++ (pre ++ rest))))) ?xFN ?xNN ?xmN ?xkN ?xneN ?xbN ?xyN ?xzN ?xz2N ?_); (case xFN => k_asm); (case xNN => k_asm); (case xmN => k_mem); (case xkN => tb_rel); (case xneN => k_all); (case xbN => k_mem); (case xyN => k_dflt (exact Nat.succ_pos _)); (case xzN => omega); (case xz2N => k_dflt (exact Nat.le_of_ble_eq_true rfl)); intro h' F' N')
            unfold Held
            wrow_steps
            unfold Held
            refine' TurnP.next (ps' := [((Str.ofString "source"), .ref src), ((Str.ofString "found"), .ref lf), ((Str.ofString "due"), .ref ld), ((Str.ofString "held"), .ref lh), ((Str.ofString "mode"), .int k2 t2)]) (nx' := (src, srcO cl rc (pl + 1 + 1) t3c t4c n2c) :: (lf, listOf (List.toArray (fv ++ [Value.ref a])) (nf + 1)) :: (ld, listOf (List.toArray (dv ++ [Value.ref tA, r7, Value.ref tB])) (nd + 1)) :: (lh, listOf (List.toArray ms2) nh2) :: ((((PB ++ (pre7 ++ PA)) ++ Q2) ++ pre) ++ rest)) ?tFN ?tNN ?tnN ?tcN ?tkN ?tJN
            (case tFN => k_asm)
            (case tNN => k_asm)
            (case tnN => tb_rel)
            (case tcN => refine offP (X := fun _ => False) ?_; exact Apart.consr (by k_all) (Apart.consr (by k_all) (Apart.consr (by k_all) (Apart.consr (by k_all) (Apart.appr (Apart.appr (Apart.appr (Apart.append (haB.mono (by tb_rel)) (Apart.append (ha7.mono (by tb_rel)) (haA.mono (by tb_rel)))).symm (haq.mono (by tb_rel)).symm) (hoff.mono (by tb_rel))) (hoff.mono (by tb_rel)))))))
            (case tkN => tb_start)
            (case tJN => exact ⟨ops ++ [_], rc, pl + 1 + 1, t3c, t4c, n2c, t2, ms2, nh2, _, _, _, _, ((PB ++ (pre7 ++ PA)) ++ Q2) ++ pre, (by rw [List.length_append, List.length_singleton, eops]), rfl, hrc, by omega, (by rw [hR]; exact his2), hml2, (hfv.mono fun h => h.sub (by tb_rel)).append (.cons (hov.sub (by tb_rel)) .nil), (by rw [hR]; exact (hdv.mono fun h => h.mono (by tb_rel)).append (by rw [outK_vis hh, hd8]; exact .cons (hdA.mono (by tb_rel)) (.cons (hd7.mono (by tb_rel)) (.cons (hdB.mono (by tb_rel)) .nil)))), (by rw [List.length_append]; simp only [List.length_cons, List.length_nil]; omega), Apart.consr (by k_all) (Apart.consr (by k_all) (Apart.consr (by k_all) (Apart.consr (by k_all) (Apart.append (Apart.append (Apart.append (haB.mono (by tb_rel)) (Apart.append (ha7.mono (by tb_rel)) (haA.mono (by tb_rel)))) (haq.mono (by tb_rel))) (hap.mono (by tb_rel)))))), (by rw [hR])⟩)
      · have hxn := word_no hot hd8
        k_with "call!" => ((with_reducible show wpAny _ _ (call (Value.ref 398) _) _ _ _); k_dflt (refine' Ctr.use ?kCX ?k1X ?k2X ?k3X ?k4X ?k5X ?kKX ?kdX ?kuX ?_); (case k4X => k_asm); (case kCX => k_dflt (exact optold_ok w _ (.ref a) _ l8 vs8 n8 ds8 (ho8.sub (by tb_rel)) (by k_mem) (hos8.sub (by tb_rel)) hlen8)); (case k1X => k_asm); (case k2X => k_asm); (case k3X => k_asm); (case k5X => k_asm); (case kKX => first | exact rfl | assumption); (case kdX => ktr_room); (case kuX => ktr_units); intro r7 n7 h7 tk7 F7 N7 p7; (obtain ⟨pre7, e8, hd7, ha7⟩ := p7; subst e8); (try dsimp only); (try k_fold))
        k_with "call builtin:list.extend" => (refine held ?_)
        wrow_steps
        (rename News _ _ _ _ => lN)
        refine nm 0 _ _ rfl lN ?_
        intro ll oll e1 e2; subst e1; subst e2
        k_with "call builtin:list.extend" => (k_dflt (refine' extend_L ((ll, listOf (List.toArray [r7]) 0) :: (pre7 ++ (lf, listOf (List.toArray (fv ++ [Value.ref a])) (nf + 1)) :: (src, srcO cl rc (pl + 1 + 1) t3c t4c n2c) :: (lh, listOf (List.toArray ms2) nh2) :: (own ++ (Q2 ++ (pre ++ rest))))) ?xFX ?xNX ?xmX ?xkX ?xneX ?xbX ?xyX ?xzX ?xz2X ?_); (case xFX => k_asm); (case xNX => k_asm); (case xmX => k_mem); (case xkX => tb_rel); (case xneX => k_all); (case xbX => k_mem); (case xyX => k_dflt (exact Nat.succ_pos _)); (case xzX => omega); (case xz2X => k_dflt (exact Nat.le_of_ble_eq_true rfl)); intro h' F' N')
        unfold Held
        wrow_steps
        unfold Held
        refine' TurnP.next (ps' := [((Str.ofString "source"), .ref src), ((Str.ofString "found"), .ref lf), ((Str.ofString "due"), .ref ld), ((Str.ofString "held"), .ref lh), ((Str.ofString "mode"), .int k2 t2)]) (nx' := (src, srcO cl rc (pl + 1 + 1) t3c t4c n2c) :: (lf, listOf (List.toArray (fv ++ [Value.ref a])) (nf + 1)) :: (ld, listOf (List.toArray (dv ++ [r7])) (nd + 1)) :: (lh, listOf (List.toArray ms2) nh2) :: (((pre7 ++ Q2) ++ pre) ++ rest)) ?tFX ?tNX ?tnX ?tcX ?tkX ?tJX
        (case tFX => k_asm)
        (case tNX => k_asm)
        (case tnX => tb_rel)
        (case tcX => refine offP (X := fun _ => False) ?_; exact Apart.consr (by k_all) (Apart.consr (by k_all) (Apart.consr (by k_all) (Apart.consr (by k_all) (Apart.appr (Apart.appr (Apart.appr (ha7.mono (by tb_rel)).symm (haq.mono (by tb_rel)).symm) (hoff.mono (by tb_rel))) (hoff.mono (by tb_rel)))))))
        (case tkX => tb_start)
        (case tJX => exact ⟨ops ++ [_], rc, pl + 1 + 1, t3c, t4c, n2c, t2, ms2, nh2, _, _, _, _, (pre7 ++ Q2) ++ pre, (by rw [List.length_append, List.length_singleton, eops]), rfl, hrc, by omega, (by rw [hR]; exact his2), hml2, (hfv.mono fun h => h.sub (by tb_rel)).append (.cons (hov.sub (by tb_rel)) .nil), (by rw [hR]; exact (hdv.mono fun h => h.mono (by tb_rel)).append (by rw [outK_no hot, hd8]; exact .cons (hd7.mono (by tb_rel)) .nil)), (by rw [List.length_append]; simp only [List.length_cons, List.length_nil]; omega), Apart.consr (by k_all) (Apart.consr (by k_all) (Apart.consr (by k_all) (Apart.consr (by k_all) (Apart.append (Apart.append (ha7.mono (by tb_rel)) (haq.mono (by tb_rel))) (hap.mono (by tb_rel)))))), (by rw [hR])⟩)
    case br =>
      have h6 : vb = 0 ∨ vb = 1 ∨ vb = 2 ∨ vb = 3 ∨ vb = 4 ∨ vb = 5 := by omega
      rcases h6 with rfl | rfl | rfl | rfl | rfl | rfl
      · skip
        k_with "call!" => ((with_reducible show wpAny _ _ (call (Value.ref 155) _) _ _ _); k_dflt (refine' Ctr.use ?kC ?k1 ?k2 ?k3 ?k4 ?k5 ?kK ?kd ?ku ?_); (case k4 => k_asm); (case kC => k_dflt (exact dec0_mk w _ _ _ _)); (case k1 => k_asm); (case k2 => k_asm); (case k3 => k_asm); (case k5 => k_asm); (case kK => first | exact rfl | assumption); (case kd => ktr_room); (case ku => ktr_units); intro rd nd hd tkd Fd Nd pd; (obtain ⟨pred, e8, hnd, had⟩ := pd; subst e8); (try dsimp only); (try k_fold))
        k_with "call!" => ((with_reducible show wpAny _ _ (call (Value.ref 155) _) _ _ _); k_dflt (refine' Ctr.use ?kC ?k1 ?k2 ?k3 ?k4 ?k5 ?kK ?kd ?ku ?_); (case k4 => k_asm); (case kC => k_dflt (exact dec1_mk w _ _ _ _ (ten5 hv0c))); (case k1 => k_asm); (case k2 => k_asm); (case k3 => k_asm); (case k5 => k_asm); (case kK => first | exact rfl | assumption); (case kd => ktr_room); (case ku => ktr_units); intro re ne he tke Fe Ne pe; (obtain ⟨pree, e8, hne9, hae⟩ := pe; subst e8); (try dsimp only); (try k_fold))
        k_with "call!" => ((with_reducible show wpAny _ _ (call (Value.ref 401) _) _ _ _); k_dflt (refine' Ctr.use ?kC ?k1 ?k2 ?k3 ?k4 ?k5 ?kK ?kd ?ku ?_); (case k4 => k_asm); (case kC => k_dflt (exact op_mk w _ _ _ _)); (case k1 => k_asm); (case k2 => k_asm); (case k3 => k_asm); (case k5 => k_asm); (case kK => first | exact rfl | assumption); (case kd => ktr_room); (case ku => ktr_units); intro rf nf hf tkf Ff Nf pf; (obtain ⟨pref, e8, hnf, haf⟩ := pf; subst e8); (try dsimp only); (try k_fold))
        wrow_steps
        refine name_op hnf ?_
        intro ly ely
        subst ely
        unfold Held
        refine' MidP.next (ps := [((Str.ofString "source"), .ref src), ((Str.ofString "found"), .ref lf), ((Str.ofString "due"), .ref ld), ((Str.ofString "held"), .ref lh), ((Str.ofString "mode"), .int vc tvc), ((Str.ofString "one"), rf)]) (nx := ((src, srcO cl rc (pl + 1 + 1) t3c t4c n2c) :: (lf, listOf (List.toArray fv) nf) :: (ld, listOf (List.toArray dv) nd) :: (lh, listOf (List.toArray ms) nh) :: (own ++ ((pref ++ (ly, listOf (List.toArray [Value.int vc tvc]) 0) :: (pree ++ pred)) ++ (pre ++ rest))))) ?tF ?tN ?tn ?tk ?tJ
        (case tF => k_asm)
        (case tN => k_asm)
        (case tn => tb_rel)
        (case tk => tb_start)
        (case tJ => exact ⟨rf, .trI vc, (pref ++ (ly, listOf (List.toArray [Value.int vc tvc]) 0) :: (pree ++ pred)), tvc, ms, nh, rfl, .mkI (hnf.sub (by tb_rel)) (by k_mem), his, by omega, Apart.append (haf.mono (by tb_rel)) (Apart.cons (by first | exact NeAll.to (NeAll.all (by with_reducible assumption) (by kt_at_notin)) | exact NeAll.to (NeAll.lt (by with_reducible assumption) (by kt_at_notin))) (Apart.append (hae.mono (by tb_rel)) (had.mono (by tb_rel)))), rfl⟩)
      · skip
        k_with "call!" => ((with_reducible show wpAny _ _ (call (Value.ref 155) _) _ _ _); k_dflt (refine' Ctr.use ?kC ?k1 ?k2 ?k3 ?k4 ?k5 ?kK ?kd ?ku ?_); (case k4 => k_asm); (case kC => k_dflt (exact dec0_mk w _ _ _ _)); (case k1 => k_asm); (case k2 => k_asm); (case k3 => k_asm); (case k5 => k_asm); (case kK => first | exact rfl | assumption); (case kd => ktr_room); (case ku => ktr_units); intro rd nd hd tkd Fd Nd pd; (obtain ⟨pred, e8, hnd, had⟩ := pd; subst e8); (try dsimp only); (try k_fold))
        k_with "call!" => ((with_reducible show wpAny _ _ (call (Value.ref 155) _) _ _ _); k_dflt (refine' Ctr.use ?kC ?k1 ?k2 ?k3 ?k4 ?k5 ?kK ?kd ?ku ?_); (case k4 => k_asm); (case kC => k_dflt (exact dec1_mk w _ _ _ _ (ten5 hv0c))); (case k1 => k_asm); (case k2 => k_asm); (case k3 => k_asm); (case k5 => k_asm); (case kK => first | exact rfl | assumption); (case kd => ktr_room); (case ku => ktr_units); intro re ne he tke Fe Ne pe; (obtain ⟨pree, e8, hne9, hae⟩ := pe; subst e8); (try dsimp only); (try k_fold))
        k_with "call!" => ((with_reducible show wpAny _ _ (call (Value.ref 401) _) _ _ _); k_dflt (refine' Ctr.use ?kC ?k1 ?k2 ?k3 ?k4 ?k5 ?kK ?kd ?ku ?_); (case k4 => k_asm); (case kC => k_dflt (exact op_mk w _ _ _ _)); (case k1 => k_asm); (case k2 => k_asm); (case k3 => k_asm); (case k5 => k_asm); (case kK => first | exact rfl | assumption); (case kd => ktr_room); (case ku => ktr_units); intro rf nf hf tkf Ff Nf pf; (obtain ⟨pref, e8, hnf, haf⟩ := pf; subst e8); (try dsimp only); (try k_fold))
        wrow_steps
        refine name_op hnf ?_
        intro ly ely
        subst ely
        unfold Held
        refine' MidP.next (ps := [((Str.ofString "source"), .ref src), ((Str.ofString "found"), .ref lf), ((Str.ofString "due"), .ref ld), ((Str.ofString "held"), .ref lh), ((Str.ofString "mode"), .int vc tvc), ((Str.ofString "one"), rf)]) (nx := ((src, srcO cl rc (pl + 1 + 1) t3c t4c n2c) :: (lf, listOf (List.toArray fv) nf) :: (ld, listOf (List.toArray dv) nd) :: (lh, listOf (List.toArray ms) nh) :: (own ++ ((pref ++ (ly, listOf (List.toArray [rd]) 0) :: (pree ++ pred)) ++ (pre ++ rest))))) ?tF ?tN ?tn ?tk ?tJ
        (case tF => k_asm)
        (case tN => k_asm)
        (case tn => tb_rel)
        (case tk => tb_start)
        (case tJ => exact ⟨rf, .trD vc 0, (pref ++ (ly, listOf (List.toArray [rd]) 0) :: (pree ++ pred)), tvc, ms, nh, rfl, .mkD (hnf.sub (by tb_rel)) (by k_mem) (hnd.sub (by tb_rel)) (.inl rfl), his, by omega, Apart.append (haf.mono (by tb_rel)) (Apart.cons (by first | exact NeAll.to (NeAll.all (by with_reducible assumption) (by kt_at_notin)) | exact NeAll.to (NeAll.lt (by with_reducible assumption) (by kt_at_notin))) (Apart.append (hae.mono (by tb_rel)) (had.mono (by tb_rel)))), rfl⟩)
      · skip
        k_with "call!" => ((with_reducible show wpAny _ _ (call (Value.ref 155) _) _ _ _); k_dflt (refine' Ctr.use ?kC ?k1 ?k2 ?k3 ?k4 ?k5 ?kK ?kd ?ku ?_); (case k4 => k_asm); (case kC => k_dflt (exact dec0_mk w _ _ _ _)); (case k1 => k_asm); (case k2 => k_asm); (case k3 => k_asm); (case k5 => k_asm); (case kK => first | exact rfl | assumption); (case kd => ktr_room); (case ku => ktr_units); intro rd nd hd tkd Fd Nd pd; (obtain ⟨pred, e8, hnd, had⟩ := pd; subst e8); (try dsimp only); (try k_fold))
        k_with "call!" => ((with_reducible show wpAny _ _ (call (Value.ref 155) _) _ _ _); k_dflt (refine' Ctr.use ?kC ?k1 ?k2 ?k3 ?k4 ?k5 ?kK ?kd ?ku ?_); (case k4 => k_asm); (case kC => k_dflt (exact dec1_mk w _ _ _ _ (ten5 hv0c))); (case k1 => k_asm); (case k2 => k_asm); (case k3 => k_asm); (case k5 => k_asm); (case kK => first | exact rfl | assumption); (case kd => ktr_room); (case ku => ktr_units); intro re ne he tke Fe Ne pe; (obtain ⟨pree, e8, hne9, hae⟩ := pe; subst e8); (try dsimp only); (try k_fold))
        k_with "call!" => ((with_reducible show wpAny _ _ (call (Value.ref 401) _) _ _ _); k_dflt (refine' Ctr.use ?kC ?k1 ?k2 ?k3 ?k4 ?k5 ?kK ?kd ?ku ?_); (case k4 => k_asm); (case kC => k_dflt (exact op_mk w _ _ _ _)); (case k1 => k_asm); (case k2 => k_asm); (case k3 => k_asm); (case k5 => k_asm); (case kK => first | exact rfl | assumption); (case kd => ktr_room); (case ku => ktr_units); intro rf nf hf tkf Ff Nf pf; (obtain ⟨pref, e8, hnf, haf⟩ := pf; subst e8); (try dsimp only); (try k_fold))
        wrow_steps
        refine name_op hnf ?_
        intro ly ely
        subst ely
        unfold Held
        refine' MidP.next (ps := [((Str.ofString "source"), .ref src), ((Str.ofString "found"), .ref lf), ((Str.ofString "due"), .ref ld), ((Str.ofString "held"), .ref lh), ((Str.ofString "mode"), .int k t), ((Str.ofString "one"), rf)]) (nx := ((src, srcO cl rc (pl + 1 + 1) t3c t4c n2c) :: (lf, listOf (List.toArray fv) nf) :: (ld, listOf (List.toArray dv) nd) :: (lh, listOf (List.toArray ms) nh) :: (own ++ ((pref ++ (ly, listOf (List.toArray [re]) 0) :: (pree ++ pred)) ++ (pre ++ rest))))) ?tF ?tN ?tn ?tk ?tJ
        (case tF => k_asm)
        (case tN => k_asm)
        (case tn => tb_rel)
        (case tk => tb_start)
        (case tJ => exact ⟨rf, .trD (10 * vc + 5) 1, (pref ++ (ly, listOf (List.toArray [re]) 0) :: (pree ++ pred)), t, ms, nh, rfl, .mkD (hnf.sub (by tb_rel)) (by k_mem) (hne9.sub (by tb_rel)) (.inr rfl), his, by omega, Apart.append (haf.mono (by tb_rel)) (Apart.cons (by first | exact NeAll.to (NeAll.all (by with_reducible assumption) (by kt_at_notin)) | exact NeAll.to (NeAll.lt (by with_reducible assumption) (by kt_at_notin))) (Apart.append (hae.mono (by tb_rel)) (had.mono (by tb_rel)))), rfl⟩)
      · skip
        k_with "call!" => ((with_reducible show wpAny _ _ (call (Value.ref 401) _) _ _ _); k_dflt (refine' Ctr.use ?kC ?k1 ?k2 ?k3 ?k4 ?k5 ?kK ?kd ?ku ?_); (case k4 => k_asm); (case kC => k_dflt (exact op_mk w _ _ _ _)); (case k1 => k_asm); (case k2 => k_asm); (case k3 => k_asm); (case k5 => k_asm); (case kK => first | exact rfl | assumption); (case kd => ktr_room); (case ku => ktr_units); intro rf nf hf tkf Ff Nf pf; (obtain ⟨pref, e8, hnf, haf⟩ := pf; subst e8); (try dsimp only); (try k_fold))
        k_with "call builtin:list.append" => (refine held ?_)
        wrow_steps
        refine name_op hnf ?_
        intro ly ely
        subst ely
        k_with "call builtin:list.append" => (k_dflt (refine' append_L (pref ++ (ly, listOf (List.toArray []) 0) :: (src, srcO cl rc (pl + 1 + 1) t3c t4c n2c) :: (own ++ (lf, listOf (List.toArray fv) nf) :: (ld, listOf (List.toArray dv) nd) :: (pre ++ rest))) ?aF ?aN ?am ?ak ?ane ?az ?_); (case aF => k_asm); (case aN => k_asm); (case am => k_mem); (case ak => tb_rel); (case ane => k_all); (case az => omega); intro h' F' N')
        unfold Held
        wrow_steps
        unfold Held
        refine' MidP.next (ps := [((Str.ofString "source"), .ref src), ((Str.ofString "found"), .ref lf), ((Str.ofString "due"), .ref ld), ((Str.ofString "held"), .ref lh), ((Str.ofString "mode"), .int k t), ((Str.ofString "one"), rf)]) (nx := ((src, srcO cl rc (pl + 1 + 1) t3c t4c n2c) :: (lf, listOf (List.toArray fv) nf) :: (ld, listOf (List.toArray dv) nd) :: (lh, listOf (List.toArray (ms ++ [Value.int k t])) (nh + 1)) :: (own ++ ((pref ++ [(ly, listOf (List.toArray []) 0)]) ++ (pre ++ rest))))) ?tF ?tN ?tn ?tk ?tJ
        (case tF => k_asm)
        (case tN => k_asm)
        (case tn => tb_rel)
        (case tk => tb_start)
        (case tJ => exact ⟨rf, .q, (pref ++ [(ly, listOf (List.toArray []) 0)]), t, (ms ++ [Value.int k t]), (nh + 1), rfl, .mkq (hnf.sub (by tb_rel)) (by k_mem), IntsAre.snoc his k t, (by rw [List.length_append, List.length_singleton]; omega), Apart.append (haf.mono (by tb_rel)) (Apart.cons (by first | exact NeAll.to (NeAll.all (by with_reducible assumption) (by kt_at_notin)) | exact NeAll.to (NeAll.lt (by with_reducible assumption) (by kt_at_notin))) Apart.nil), rfl⟩)
      · skip
        cases hms : ms.isEmpty with
        | true =>
          k_with "compareOp Eq ref ref" => (k_dflt (refine' eq_nil_L ?eN ?el ?eb ?eu ?et ?_); (case eN => k_asm); (case el => k_mem); (case eb => k_mem); (case eu => ktr_units); (case et => exact hms))
          k_with "call!" => ((with_reducible show wpAny _ _ (call (Value.ref 401) _) _ _ _); k_dflt (refine' Ctr.use ?kC ?k1 ?k2 ?k3 ?k4 ?k5 ?kK ?kd ?ku ?_); (case k4 => k_asm); (case kC => k_dflt (exact op_mk w _ _ _ _)); (case k1 => k_asm); (case k2 => k_asm); (case k3 => k_asm); (case k5 => k_asm); (case kK => first | exact rfl | assumption); (case kd => ktr_room); (case ku => ktr_units); intro rf nf hf tkf Ff Nf pf; (obtain ⟨pref, e8, hnf, haf⟩ := pf; subst e8); (try dsimp only); (try k_fold))
          k_with "call builtin:list.append" => (refine held ?_)
          wrow_steps
          refine name_op hnf ?_
          intro ly ely
          subst ely
          k_with "call builtin:list.append" => (k_dflt (refine' append_L (pref ++ (ly, listOf (List.toArray []) 0) :: (src, srcO cl rc (pl + 1 + 1) t3c t4c n2c) :: (own ++ (lf, listOf (List.toArray fv) nf) :: (ld, listOf (List.toArray dv) nd) :: (pre ++ rest))) ?aF ?aN ?am ?ak ?ane ?az ?_); (case aF => k_asm); (case aN => k_asm); (case am => k_mem); (case ak => tb_rel); (case ane => k_all); (case az => omega); intro h' F' N')
          unfold Held
          wrow_steps
          unfold Held
          refine' MidP.next (ps := [((Str.ofString "source"), .ref src), ((Str.ofString "found"), .ref lf), ((Str.ofString "due"), .ref ld), ((Str.ofString "held"), .ref lh), ((Str.ofString "mode"), .int k t), ((Str.ofString "one"), rf)]) (nx := ((src, srcO cl rc (pl + 1 + 1) t3c t4c n2c) :: (lf, listOf (List.toArray fv) nf) :: (ld, listOf (List.toArray dv) nd) :: (lh, listOf (List.toArray (ms ++ [Value.int k t])) (nh + 1)) :: (own ++ ((pref ++ [(ly, listOf (List.toArray []) 0)]) ++ (pre ++ rest))))) ?tF ?tN ?tn ?tk ?tJ
          (case tF => k_asm)
          (case tN => k_asm)
          (case tn => tb_rel)
          (case tk => tb_start)
          (case tJ => exact ⟨rf, .q, (pref ++ [(ly, listOf (List.toArray []) 0)]), t, (ms ++ [Value.int k t]), (nh + 1), rfl, .mkq (hnf.sub (by tb_rel)) (by k_mem), IntsAre.snoc his k t, (by rw [List.length_append, List.length_singleton]; omega), Apart.append (haf.mono (by tb_rel)) (Apart.cons (by first | exact NeAll.to (NeAll.all (by with_reducible assumption) (by kt_at_notin)) | exact NeAll.to (NeAll.lt (by with_reducible assumption) (by kt_at_notin))) Apart.nil), rfl⟩)
        | false =>
          have hpos : 0 < ms.length := by
            cases ms with
            | nil => cases hms
            | cons => simp
          have hs : st ≠ [] := fun e => by
            rw [(ints_nil his).mpr e] at hpos
            simp at hpos
          have e1 : modeAfter .Q k st = (st.getLastD 0, st.dropLast) := by simp [modeAfter, hs]
          k_with "compareOp Eq ref ref" => (k_dflt (refine' eq_nil_L ?eN ?el ?eb ?eu ?et ?_); (case eN => k_asm); (case el => k_mem); (case eb => k_mem); (case eu => ktr_units); (case et => exact hms))
          k_with "call!" => ((with_reducible show wpAny _ _ (call (Value.ref 401) _) _ _ _); k_dflt (refine' Ctr.use ?kC ?k1 ?k2 ?k3 ?k4 ?k5 ?kK ?kd ?ku ?_); (case k4 => k_asm); (case kC => k_dflt (exact op_mk w _ _ _ _)); (case k1 => k_asm); (case k2 => k_asm); (case k3 => k_asm); (case k5 => k_asm); (case kK => first | exact rfl | assumption); (case kd => ktr_room); (case ku => ktr_units); intro rf nf hf tkf Ff Nf pf; (obtain ⟨pref, e8, hnf, haf⟩ := pf; subst e8); (try dsimp only); (try k_fold))
          k_with "call builtin:list.pop" => (refine held ?_)
          wrow_steps
          refine name_op hnf ?_
          intro ly ely
          subst ely
          k_with "call builtin:list.pop" => ((try dsimp only); k_dflt (refine' pop_L (pref ++ (ly, listOf (List.toArray []) 0) :: (src, srcO cl rc (pl + 1 + 1) t3c t4c n2c) :: (own ++ (lf, listOf (List.toArray fv) nf) :: (ld, listOf (List.toArray dv) nd) :: (pre ++ rest))) ?aF ?aN ?am ?ak ?ane his ?ap ?az ?_); (case aF => k_asm); (case aN => k_asm); (case am => k_mem); (case ak => tb_rel); (case ane => k_all); (case ap => exact hpos); (case az => omega); intro h' tz F' N')
          unfold Held
          wrow_steps
          unfold Held
          refine' MidP.next (ps := [((Str.ofString "source"), .ref src), ((Str.ofString "found"), .ref lf), ((Str.ofString "due"), .ref ld), ((Str.ofString "held"), .ref lh), ((Str.ofString "mode"), .int (st.getLastD 0) tz), ((Str.ofString "one"), rf)]) (nx := ((src, srcO cl rc (pl + 1 + 1) t3c t4c n2c) :: (lf, listOf (List.toArray fv) nf) :: (ld, listOf (List.toArray dv) nd) :: (lh, listOf (List.toArray ms.dropLast) (nh + 1)) :: (own ++ ((pref ++ [(ly, listOf (List.toArray []) 0)]) ++ (pre ++ rest))))) ?tF ?tN ?tn ?tk ?tJ
          (case tF => k_asm)
          (case tN => k_asm)
          (case tn => tb_rel)
          (case tk => tb_start)
          (case tJ => exact ⟨rf, .Q, (pref ++ [(ly, listOf (List.toArray []) 0)]), tz, ms.dropLast, (nh + 1), rfl, .mkQ (hnf.sub (by tb_rel)) (by k_mem), (by rw [e1]; exact ints_drop his), (by rw [List.length_dropLast]; omega), Apart.append (haf.mono (by tb_rel)) (Apart.cons (by first | exact NeAll.to (NeAll.all (by with_reducible assumption) (by kt_at_notin)) | exact NeAll.to (NeAll.lt (by with_reducible assumption) (by kt_at_notin))) Apart.nil), (by rw [e1])⟩)
      · skip
        wrow_steps
        unfold Held
        refine' MidP.next (ps := [((Str.ofString "source"), .ref src), ((Str.ofString "found"), .ref lf), ((Str.ofString "due"), .ref ld), ((Str.ofString "held"), .ref lh), ((Str.ofString "mode"), .int k t), ((Str.ofString "one"), rf)]) (nx := ((src, srcO cl rc (pl + 1 + 1) t3c t4c n2c) :: (lf, listOf (List.toArray fv) nf) :: (ld, listOf (List.toArray dv) nd) :: (lh, listOf (List.toArray ms) nh) :: (own ++ (QT ++ (pre ++ rest))))) ?tF ?tN ?tn ?tk ?tJ
        (case tF => k_asm)
        (case tN => k_asm)
        (case tn => tb_rel)
        (case tk => tb_start)
        (case tJ => exact ⟨rf, .tj, QT, t, ms, nh, rfl, hQT, his, by omega, haQ.mono (by tb_rel), rfl⟩)
end
end
section
set_option hygiene false in
local macro_rules | `(tactic| walk_at "truthy ref") => `(tactic| k_extra "truthy ref")
set_option hygiene false in
local macro_rules | `(tactic| walk_at "call builtin:abs") => `(tactic| k_extra "call builtin:abs")
set_option hygiene false in
local macro_rules | `(tactic| walk_at "binaryOp Pow int int") => `(tactic| k_extra "binaryOp Pow int int")
set_option hygiene false in
local macro_rules | `(tactic| walk_at "binaryOp Mod int int") => `(tactic| k_extra "binaryOp Mod int int")
local macro_rules | `(tactic| walk_at "execs cons") => `(tactic| (k_here; (with_reducible refine any_toks1 ?_); intro tk'))
local macro_rules | `(tactic| walk_at "execs nil") => `(tactic| (k_here; (with_reducible refine any_toks1 ?_); intro tk'))
-- part Source
section
variable {prog : Program} {w : World} {A : Around} {E : Value → Shared → Prop} {s : Shared} {a b n : Int} {t u : Tok} {Q : Value → Shared → Prop}
theorem pow_some (ha : 0 < a) (hn : 0 ≤ n) (hn2 : n ≤ 1000000) (hs : a.natAbs < 2 ^ 64) (h : ∀ p t tk, 0 < p → Q (.int p t) { s with toks := tk }) : wpAny (model prog w) A (binaryOp .Pow (.int a t) (.int n u)) Q E s :=
  pow_int_small hn hn2 hs (h _ _ _ (Int.pow_pos ha))
theorem ap_all0 {x : Nat} {l : List (Addr × Obj)} (h : AllLt x l) : ∀ q ∈ l, q.1 ≠ x := fun p hp => Nat.ne_of_lt (allLt_mem h p hp)
theorem abs_some (h : ∀ p t tk, Q (.int p t) { s with toks := tk }) : wpAny (model prog w) A (call (.builtin "abs") [.int a t]) Q E s := call_abs_int fun _ _ => h _ _ _
theorem mod_some (hb : 0 < b) (h : ∀ v t tk, 0 ≤ v → Q (.int v t) { s with toks := tk }) : wpAny (model prog w) A (binaryOp .Mod (.int a t) (.int b u)) Q E s :=
  mod_int' (fun e => by rw [e] at hb; exact absurd hb (by decide)) (h _ _ _ (Int.fmod_nonneg_of_pos a hb))
end
def CtrS (w : World) (f : Addr) (dd : Nat) (sc : Addr) (xs : List Value) (vs : List Value) (news : List (Addr × Obj)) (Post : Value → List (Addr × Obj) → Prop) : Prop :=
  ∀ (q : Program) (loose : List Str) (mean : ExcName → Option Value) (mg mb : Str → Option Value) (dp un : Nat) (gd : Option (List Code)) (cn : Str) (cs : Scope) (a : Addr) (ccd : Value) (cl : List (Str × Addr)) (outer : List Env) (A₀ : Around) (base h₀ : Heap) (L : Addr) (m : Str → Option Value) (s : Shared) (Q E : Value → Shared → Prop),
    h₀.IsList sc xs.toArray → Below A₀ base outer h₀ → Fr h₀ L s.heap m → (kx.heap_1 w.params).In h₀ → News h₀ L s.heap news → Top q loose mean mg mb h₀ → cs.kind = .function → dp + dd < recursionLimit → un + 8 * dd < cLine →
    (∀ r news' h' tk', Fr h₀ L h' m → News h₀ L h' news' → Post r news' → Q r { s with heap := h', toks := tk' }) →
    wpAny (model PySem.Challenge.rw_qd0128_01.prog w) (ktrTop dp un gd cn cs L a ccd cl outer) (call (.ref f) vs) Q E s
theorem source_ok (w : World) (news : List (Addr × Obj)) (sc : Addr) (vs : List Value) (ks : List Int) (hi : IntsAre vs ks) (hlen : ks.length ≤ 63) : CtrS w 558 2 sc vs [.ref sc] news (fun r' n' => ∃ src cl r cells ns nc n t1 t2 rest, r' = Value.ref src ∧ n' = (src, srcO cl r 0 t1 t2 n) :: rest ∧ (∀ p ∈ rest, p.1 ≠ src) ∧ (cl, listOf (List.toArray cells) nc) ∈ rest ∧ IntsAre cells ns ∧ 0 < List.length ns ∧ List.length ns ≤ 100 ∧ (0 : Int) ≤ r ∧ (∀ p ∈ news, p ∈ rest)) := by
  unfold CtrS
  k_fill
  intros; rename_i hret
  refine (let A9 : Around := _; (?_ : wpAny _ A9 _ _ _ _))
  refine wpAny_call ?_
  k_dflt (refine' code_def ?k1 ?k2 ?k3 ?k4 ?k5 ?kA ?kF ?kK ?k6 ?k7 ?k8 ?k9 ?kB ?_ ?c2 ?c3 ?c4 ?c5; (case kA => exact rfl); (case kF => exact rfl); (case kK => first | assumption | exact rfl); (case k1 => k_asm); (case k2 => k_asm); (case k3 => k_asm); (case k4 => k_asm); (case k5 => k_asm); (case k6 => k_is); (case k7 => k_is); (case k8 => ktr_room); (case k9 => first | exact BindsTo.of_eq rfl | exact binds_K (by k_in) rfl (by k_is) rfl rfl rfl); (case c5 => decide); (case kB => exact locs rfl); (case c2 => exact rfl); (case c3 => exact rfl); (case c4 => exact rfl); k_whole; intro g' L' h' FG' F' N' B' X' T'; (try dsimp only); (try k_lift B'); (try k_fold))
  refine (let e9 : Env := _; (?_ : wpAny _ (Around.deeper _ e9) (execs _ e9) _ _ _))
  refine (let B9 : Around := _; (?_ : wpAny _ B9 _ _ _ _))
  (rename Fr _ _ _ _ => lF)
  replace lF := fr_fold [((Str.ofString "script"), .ref sc)] lF (by tb_start)
  obtain ⟨u, lF⟩ := lF
  dsimp only [kstB] at lF
  k_with_none
  have hsl : g'.IsList sc vs.toArray := (fun h => ⟨h.choose, FG'.keep _ _ h.choose_spec.1, h.choose_spec.2⟩) (by assumption : Heap.IsList _ sc vs.toArray)
  wrow_steps
  rename IntsAre _ (List.take 60 ks) => hT
  rename (List.take 60 ks).length = min 60 ks.length => hTl
  unfold Held
  k_dflt (refine' compU_same (xs := _) (fun i ys => Held (IntsAre ys ((ks.take 60).take i))) (by rfl) ?F ?N ?m ?z ?j0 ?turn ?fin)
  case F => k_asm
  case N => k_asm
  case m => k_mem
  case z => (have h9 := hT.length; omega)
  case j0 => exact .nil
  case turn =>
    intro i v ys I oI C oC D m₂ h tk E' hv hJ hS hC hx F N o3 n3
    obtain ⟨k, t, hk, ev⟩ := ints_get hT hv
    subst ev
    wrow_steps
    unfold Held
    (k_dflt (refine' end_same ?F ?N ?sub ?off ?hS ?r); (case F => k_asm); (case N => k_asm); (case sub => tb_rel); (case off => assumption); (case hS => assumption); (case r => exact (by rw [take_snoc hk]; exact IntsAre.snoc hJ k _)))
  case fin =>
    intro g9 ys hJ
    unfold LCg.FinE
    intro D h tk F N o1
    have hys : IntsAre ys (ks.take 60) := by
      have h9 := held hJ
      rw [hT.length, List.take_length] at h9
      exact h9
    have hyl := hys.length
    by_cases he : ys.isEmpty
    · k_with_none
      k_with "binaryOp Pow int int" => (k_dflt (refine' pow_some ?za9 ?zb9 ?zc9 ?zd9 ?_); (case za9 => decide); (case zb9 => decide); (case zc9 => decide); (case zd9 => decide); intro pp tp tkp hpp)
      k_with "call builtin:abs" => (k_dflt (refine' abs_some ?_); intro pa ta tka)
      k_with "binaryOp Mod int int" => (k_dflt (refine' mod_some ?za9 ?_); (case za9 => with_reducible assumption); intro pm tm tkm hpm)
      k_with "truthy ref" => (k_dflt (refine' truthy_S (xs := ys) (b := false) ?wF ?wN ?wS ?wz ?wb ?_; (case wF => k_asm); (case wN => k_asm); (case wS => exact .inr ⟨_, by k_mem, rfl, _, rfl⟩); (case wz => omega); (case wb => (rw [he]; k_dflt (exact rfl)))); intro tk9)
      wrow_steps
      all_goals (rename (_ < _ ∧ _ < _ ∧ _ < _ ∧ AllLt _ _) => hlN; (refine' hret _ _ _ _ ?e1 ?e2 ?e3; (case e1 => k_asm); (case e2 => k_asm); (case e3 => exact ⟨_, _, _, _, [6], _, _, _, _, _, rfl, rfl, ap_all0 hlN, by k_mem, .cons _ _ .nil, by decide, by decide, by first | assumption | decide, by tb_rel⟩)))
    · k_with_none
      k_with "binaryOp Pow int int" => (k_dflt (refine' pow_some ?za9 ?zb9 ?zc9 ?zd9 ?_); (case za9 => decide); (case zb9 => decide); (case zc9 => decide); (case zd9 => decide); intro pp tp tkp hpp)
      k_with "call builtin:abs" => (k_dflt (refine' abs_some ?_); intro pa ta tka)
      k_with "binaryOp Mod int int" => (k_dflt (refine' mod_some ?za9 ?_); (case za9 => with_reducible assumption); intro pm tm tkm hpm)
      k_with "truthy ref" => (k_dflt (refine' truthy_S (xs := ys) (b := true) ?wF ?wN ?wS ?wz ?wb ?_; (case wF => k_asm); (case wN => k_asm); (case wS => exact .inr ⟨_, by k_mem, rfl, _, rfl⟩); (case wz => omega); (case wb => (rw [Bool.not_eq_true] at he; rw [he]; k_dflt (exact rfl)))); intro tk9)
      k_with "subscriptTail" => (k_dflt (refine' anyint_L ?N ?m hys ?h0 ?h1 ?hf ?_ ?hs); (case N => k_asm); (case m => k_mem); (case h0 => decide); (case h1 => k_dflt (exact hpos)); (case hf => decide); (case hs => with_unfolding_all rfl); intro ki ti)
      have hpos : (0 : Int) < ((ks.take 60).length : Int) := by
        cases ys with
        | nil => exact absurd rfl he
        | cons a b => rw [List.length_cons] at hyl; omega
      wrow_steps
      all_goals (rename (_ < _ ∧ _ < _ ∧ AllLt _ _) => hlN; (refine' hret _ _ _ _ ?e1 ?e2 ?e3; (case e1 => k_asm); (case e2 => k_asm); (case e3 => exact ⟨_, _, _, _, _, _, _, _, _, _, rfl, rfl, ap_all0 hlN, by k_mem, hys, by omega, by omega, by first | assumption | decide, by tb_rel⟩)))
end
section
set_option hygiene false in
local macro_rules | `(tactic| walk_at "DSrc") => `(tactic| (refine held ?_))
set_option hygiene false in
local macro_rules | `(tactic| walk_at "subscriptTail Name Name ref int") => `(tactic| k_extra "subscriptTail")
set_option hygiene false in
local macro_rules | `(tactic| walk_at "subscriptTail Name") => `(tactic| k_extra "subscriptTail")
section
set_option hygiene false in
local macro_rules | `(tactic| walk_at "exec Assign cons ListComp") => `(tactic| (k_here; (with_reducible show wpAny _ _ (exec (Stmt.Assign _ (Expr.ListComp _ [Comprehension.mk _ _ [_] _] _ _) _) _) _ _ _); k_dflt (refine assign_TD (F₀ := by k_asm) (by rfl) (by with_unfolding_all rfl) (by with_unfolding_all rfl) (by decide) (by rfl) (by decide) (by rfl) (by rfl) (by rfl) ?_)))
set_option hygiene false in
local macro_rules | `(tactic| walk_at "exec Assign cons ListComp") => `(tactic| (k_here; (with_reducible show wpAny _ _ (exec (Stmt.Assign _ (Expr.ListComp _ [Comprehension.mk _ _ [] _] _ _) _) _) _ _ _); k_dflt (refine assign_UD (F₀ := by k_asm) (by rfl) (by with_unfolding_all rfl) (by with_unfolding_all rfl) (by decide) (by rfl) (by decide) (by rfl) (by rfl) (by rfl) ?_)))
set_option hygiene false in
local macro_rules | `(tactic| k_ne) => `(tactic| first | with_reducible assumption | (apply Ne.symm; with_reducible assumption) | ((try dsimp only); first | (with_reducible apply Nat.ne_of_lt; with_reducible assumption) | (with_reducible apply Nat.ne_of_gt; with_reducible assumption)) | (refine neN ?_; (try dsimp only); omega) | ((try dsimp only); refine ne_lt1 (by with_reducible assumption) (by k_mem)) | ((try dsimp only); refine ne_alll (by with_reducible assumption) (by k_mem)))
set_option hygiene false in
local macro_rules | `(tactic| walk_at "truthy ref") => `(tactic| k_extra "truthy ref")
set_option hygiene false in
local macro_rules | `(tactic| walk_at "compareOp In str ref") => `(tactic| k_extra "compareOp In str ref")
set_option hygiene false in
local macro_rules | `(tactic| walk_at "MidP") => `(tactic| ((with_reducible show MidP _ _ _ _ (Flow.next) _); refine held ?_))
-- part Doc
theorem doc_ok (w : World) (rest : List (Addr × Obj)) (src cl : Addr) (cells : List Value) (ns : List Int) (nc n place : Nat) (t1 t2 : Tok) (r : Int) (m1 : (cl, listOf cells.toArray nc) ∈ rest) (hi : IntsAre cells ns) (hns : 0 < ns.length) (hns2 : ns.length ≤ 100) (hne : ∀ p ∈ rest, p.1 ≠ src) (hr : 0 ≤ r) (hp : place ≤ 100) : Ctr w 575 6 [.ref src] ((src, srcO cl r place t1 t2 n) :: rest) (fun r' n' => DocOut w src cl cells nc rest r' n') := by
  unfold Ctr
  k_fill
  k_with_none
  intros; rename_i hret
  refine (let A9 : Around := _; (?_ : wpAny _ A9 _ _ _ _))
  refine wpAny_call ?_
  k_dflt (refine' code_defC ?k1 ?k2 ?k3 ?k4 ?k5 ?kA ?kF ?kK ?k6 ?k7 ?k8 ?k9 ?kB ?kD ?_ ?c2 ?c3 ?c4; (case kA => exact rfl); (case kF => exact rfl); (case kK => first | assumption | exact rfl); (case k1 => k_asm); (case k2 => k_asm); (case k3 => k_asm); (case k4 => k_asm); (case k5 => k_asm); (case k6 => k_is); (case k7 => k_is); (case k8 => ktr_room); (case k9 => first | exact BindsTo.of_eq rfl | exact binds_K (by k_in) rfl (by k_is) rfl rfl rfl); (case kB => exact rfl); (case kD => decide +kernel); (case c2 => exact rfl); (case c3 => exact rfl); (case c4 => exact rfl); k_whole; intro g' L' h' tk' cells' FG' F' N' Y' B' X' T' l1; k_cells Y'; (try simp only [List.cons_append, List.nil_append] at N'); (try dsimp only); (try k_lift B'); (try k_fold))
  refine (let B9 : Around := _; (?_ : wpAny _ B9 _ _ _ _))
  (rename Fr _ _ _ _ => lF)
  replace lF := fr_fold [((Str.ofString "source"), .ref src)] lF (by tb_start)
  obtain ⟨u, lF⟩ := lF
  dsimp only [kstB] at lF
  k_with_none
  have hc1 : ∀ p ∈ rest, p.1 ≠ L' + 1 := fun p hp => Nat.ne_of_lt (Nat.lt_succ_of_lt (l1 p (List.Mem.tail _ hp)))
  have hc2 : ∀ p ∈ rest, p.1 ≠ L' + 1 + 1 := fun p hp => Nat.ne_of_lt (Nat.lt_succ_of_lt (Nat.lt_succ_of_lt (l1 p (List.Mem.tail _ hp))))
  have hc3 : @LT.lt Nat _ src L' := l1 _ (List.Mem.head _)
  k_with "call!" => ((with_reducible show wpAny _ _ (call (Value.ref 377) _) _ _ _); k_dflt (refine' Ctr.use ?kC ?k1 ?k2 ?k3 ?k4 ?k5 ?kK ?kd ?ku ?_); (case k4 => k_asm); (case kC => k_dflt (exact shelf_mk w _)); (case k1 => k_asm); (case k2 => k_asm); (case k3 => k_asm); (case k5 => k_asm); (case kK => first | exact rfl | assumption); (case kd => ktr_room); (case ku => ktr_units); intro r9 n9 h9 tk9 F9 N9 p9; (obtain ⟨sh, dsh, T, tr, oT, oTr, hns9⟩ := p9; obtain ⟨a1, a2, a3, a4, a5, e8, e9, hT0, hTr0, loT, loTr, ls1, ls2, ls3, ls4⟩ := hns9; subst e8; subst e9; k_lt ls1); (try dsimp only); (try k_fold))
  wrow_steps
  (rename News _ _ _ _ => lN)
  refine nm 1 _ _ rfl lN ?_
  intro dn oN e1 e2; subst e1; subst e2
  refine nm 2 _ _ rfl lN ?_
  intro di oI e1 e2; subst e1; subst e2
  refine nm 7 _ _ rfl lN ?_
  intro c1 oc1 e1 e2; subst e2; clear e1 c1
  refine nm 8 _ _ rfl lN ?_
  intro c2 oc2 e1 e2; subst e2; clear e1 c2
  have s1 : @Ne Nat src T := by omega
  have s2 : @Ne Nat src di := by omega
  have s3 : @Ne Nat src dn := by omega
  have s4 : @Ne Nat T di := by omega
  have s5 : @Ne Nat T dn := by omega
  have s6 : @Ne Nat di dn := by omega
  have u1 : ∀ p ∈ rest, @LT.lt Nat _ p.1 dsh := allLt_mem ls1.2.2.2
  have u2 : ∀ p ∈ rest, p.1 ≠ T := fun p hp => Nat.ne_of_lt (Nat.lt_trans (u1 p hp) (by omega))
  have u3 : ∀ p ∈ rest, p.1 ≠ di := fun p hp => Nat.ne_of_lt (Nat.lt_trans (u1 p hp) (by omega))
  have u4 : ∀ p ∈ rest, p.1 ≠ dn := fun p hp => Nat.ne_of_lt (Nat.lt_trans (u1 p hp) (by omega))
  have u5 : ∀ p ∈ rest, p.1 ≠ tr := fun p hp => Nat.ne_of_lt (Nat.lt_trans (u1 p hp) (by omega))
  refine abs_list ((sh, instObj 377 dsh) :: (dsh, dictOf [⟨a1, .str (Str.ofString "table") a2, .ref T⟩, ⟨a3, .str (Str.ofString "trailer") a4, .ref tr⟩] a5) :: (L' + 1, oc2) :: rest) ?_
  intro R0 eR
  have b1 : (sh, instObj 377 dsh) ∈ R0 := by rw [eR]; k_mem
  have b2 : (dsh, dictOf [⟨a1, .str (Str.ofString "table") a2, .ref T⟩, ⟨a3, .str (Str.ofString "trailer") a4, .ref tr⟩] a5) ∈ R0 := by rw [eR]; k_mem
  have b3 : (L' + 1, oc2) ∈ R0 := by rw [eR]; k_mem
  have b4 : (cl, listOf cells.toArray nc) ∈ R0 := by rw [eR]; k_mem
  have b5 : ∀ p ∈ rest, p ∈ R0 := by rw [eR]; tb_rel
  have q1 : ∀ p ∈ R0, p.1 ≠ tr := by rw [eR]; k_all
  have q2 : ∀ p ∈ R0, p.1 ≠ L' + 1 + 1 := by rw [eR]; k_all
  have v1 : ∀ p ∈ R0, p.1 ≠ src := by rw [eR]; k_all
  have v2 : ∀ p ∈ R0, p.1 ≠ T := by rw [eR]; k_all
  have v3 : ∀ p ∈ R0, p.1 ≠ di := by rw [eR]; k_all
  have v4 : ∀ p ∈ R0, p.1 ≠ dn := by rw [eR]; k_all
  refine abs_list [(tr, oTr), (L' + 1 + 1, oc1)] ?_
  intro K0 eK
  have hK0 : Apart K0 ((src, srcO cl r place t1 t2 n) :: (T, oT) :: (di, oI) :: (dn, oN) :: R0) := by
    rw [eK]
    exact Apart.cons (by k_all) (Apart.cons (by k_all) Apart.nil)
  have hK1 : ∀ p ∈ K0, p.1 ≠ src := hK0.ne (List.Mem.head _)
  replace lN := cb_drop (news := (src, srcO cl r place t1 t2 n) :: (T, oT) :: (di, oI) :: (dn, oN) :: (K0 ++ ([] ++ R0))) lN (by rw [eR, eK]; tb_rel)
  unfold Held
  k_with "call!" => ((with_reducible show wpAny _ _ (call (Value.ref 565) _) _ _ _); k_dflt (refine' Ctr.use ?kC ?k1 ?k2 ?k3 ?k4 ?k5 ?kK ?kd ?ku ?_); (case k4 => k_dflt (exact PullAt.news src (by k_asm) (by kt_at_item))); (case kC => k_dflt (exact take_ok w _ src cl cells ns nc _ _ _ _ _ _ _ (by k_mem) hi hns hns2 (by k_all) (by assumption) (by omega) (by decide) (by decide))); (case k1 => k_asm); (case k2 => k_asm); (case k3 => k_asm); (case k5 => k_asm); (case kK => first | exact rfl | assumption); (case kd => ktr_room); (case ku => ktr_units); intro ra na ha tka Fa Na pa; (obtain ⟨va, tva, ra, t3a, t4a, n2a, e8, hv0a, hv1a, hra, e9⟩ := pa; subst e8; subst e9); (try dsimp only); (try k_fold))
  wrow_steps
  refine abs_int hv0a hv1a ?_
  intro nv hnv eva
  subst eva
  unfold Held
  (rename Fr _ _ _ _ => lF); (rename News _ _ _ _ => lN)
  with_unfolding_all refine' range_rule2 (n := nv) (ps₀ := [((Str.ofString "source"), .ref src), ((Str.ofString "shelf"), .ref sh), ((Str.ofString "names"), .ref dn)]) (fun i ps nx => ∃ gs bs, DocJ w src cl T di dn K0 R0 (place + 1) i gs bs nx ∧ [((Str.ofString "source"), .ref src), ((Str.ofString "shelf"), .ref sh), ((Str.ofString "names"), .ref dn)] = ps) (by rfl) ?rI (range_up nv (by omega)).1 (range_up nv (by omega)).2 lF lN (by tb_start) ?j0 ?turn ?done
  case rI => assumption
  case j0 => exact ⟨[], [], ⟨ra, _, _, _, _, _, _, _, [], [], [], rfl, by assumption, by omega, hT0, by assumption, by assumption, KeysIn.nil, by simp, rfl, rfl, .nil, (fun m h => nomatch h), Apart.nil, Apart.nil, (fun j m b h => by simp at h)⟩, rfl⟩
  case done =>
    clear lF lN
    k_with_none
    intro ps nx u h tk hJ F N
    obtain ⟨gs, bs, hJ, e2⟩ := hJ
    obtain ⟨r1, pl, t3, t4, n2, oT1, oI1, oN1, pre, kvs, vb, e1, hr1, hpl, hD, hDI, hDN, hK, hKl, hgl, hbl, hvb, hm6, hap, hapK, hG⟩ := hJ
    subst e1; subst e2
    dsimp only [kstB, envOfC, envX] at F N
    have hml := (menu_look w).1
    subst eK
    have hapA : Apart pre ((src, srcO cl r1 pl t3 t4 n2) :: (T, oT1) :: (di, oI1) :: (dn, oN1) :: (tr, oTr) :: (L' + 1 + 1, oc1) :: R0) := Apart.mono (Apart.appr hap hapK) (by tb_rel)
    clear hap hapK
    simp only [List.cons_append, List.nil_append] at N
    k_with "call!" => ((with_reducible show wpAny _ _ (call (Value.ref 565) _) _ _ _); k_dflt (refine' Ctr.use ?kC ?k1 ?k2 ?k3 ?k4 ?k5 ?kK ?kd ?ku ?_); (case k4 => k_dflt (exact PullAt.news src (by k_asm) (by kt_at_item))); (case kC => k_dflt (exact take_ok w _ src cl cells ns nc _ _ _ _ _ _ _ (by k_mem) hi hns hns2 (by k_all) (by assumption) (by omega) (by decide) (by decide))); (case k1 => k_asm); (case k2 => k_asm); (case k3 => k_asm); (case k5 => k_asm); (case kK => first | exact rfl | assumption); (case kd => ktr_room); (case ku => ktr_units); intro rb nb hb tkb Fb Nb pb; (obtain ⟨vb, tvb, rb, t3b, t4b, n2b, e8, hv0b, hv1b, hrb, e9⟩ := pb; subst e8; subst e9; refine abs_int hv0b hv1b ?_; intro mj hmj e9; subst e9); (try dsimp only); (try k_fold))
    k_with "subscriptTail" => ((with_reducible show wpAny _ _ (subscriptTail _ _ (Value.ref 553) _) _ _ _); k_dflt (refine' tup_K ?yF ?yX hml.2.2.2.2.2.2 ?y0 ?y1 ?y2 (menu_at mj (by omega)) ?_ ?yh); (case yF => k_asm); (case yX => k_in); (case y0 => omega); (case y1 => (simp; omega)); (case y2 => omega); (case yh => with_unfolding_all rfl))
    k_with "execs cons" => ((with_reducible show wpAny _ _ (PySem.execs (PySem.Stmt.Assign _ (PySem.Expr.IfExp _ _ _ _) _ :: _) _) _ _ _); refine held ?_)
    wrow_steps
    unfold Held
    (rename Fr _ _ _ _ => lF); (rename News _ _ _ _ => lN)
    refine' execs_mid2 lF (MidD w g' src cl T di dn tr (L' + 1 + 1) sh oT1 oI1 oN1 oTr pre R0 mj pl) ?mid ?rest9
    case mid =>
      k_with_none
      k_with "compareOp NotEq ref ref" => (k_dflt (refine' ne_nil_K ?yF ?yN ?yl ?yb ?yu rfl ?_); (case yF => k_asm); (case yN => k_asm); (case yl => exact menu_list (by k_in) mj (by omega)); (case yb => k_mem); (case yu => ktr_units))
      wrow_steps
      · unfold Held
        (rename Fr _ _ _ _ => lF); (rename News _ _ _ _ => lN)
        refine nmF (Str.ofString "first") _ rfl lF ?_
        intro fd e9; subst e9
        rename ((fd == sysModules) = false) => fds
        rename ((menuV mj).isEmpty = _) => hemp
        rename (_ = Data.cell (some _)) => hcl
        refine name_cell hcl ?_
        intro oc3 e9; subst e9
        refine nm 0 _ _ rfl lN ?_
        intro lw olw e1 e2; subst e1
        refine nm_tok e2 ?_
        intro tvw etv; rw [← etv] at lN e2; clear etv
        subst e2
        refine nm 2 _ _ rfl lN ?_
        intro fd1 fo e1 e3; subst e3; clear e1 fd1
        rename (_ < lw ∧ _) => llw
        rename (_ < fd ∧ _) => lfd
        have zf : ∀ p ∈ R0, p.1 ≠ fd := fun p hp => Nat.ne_of_lt (allLt_mem lfd.2.2.2.2.2.2.2 p (List.mem_append_right _ hp))
        have zl : ∀ p ∈ R0, p.1 ≠ lw := fun p hp => Nat.ne_of_lt (allLt_mem llw.2.2.2.2.2.2.2.2.2 p (List.mem_append_right _ hp))
        refine abs_list ([(fd, fo), (lw, listOf [Value.str (Str.ofString "View") tvw].toArray 0)]) ?_
        intro Z eZ
        have hZ : Apart Z ((src, srcO cl rb (pl + 1) t3b t4b n2b) :: (T, oT1) :: (di, oI1) :: (dn, oN1) :: (tr, oTr) :: (L' + 1 + 1, oc3) :: R0) := by
          rw [eZ]
          exact Apart.cons (by k_all) (Apart.cons (by k_all) Apart.nil)
        have hfm : (fd, fo) ∈ Z := by rw [eZ]; k_mem
        obtain ⟨kvf, hfD, hfi, hfo⟩ : ∃ kvf : List (Str × Value), Obj.IsDictOf (PySem.strKind PySem.Challenge.rw_qd0128_01.prog w) fo kvf ∧ IntentAt Z ((valueAt kvf (Str.ofString "Intent")).getD .none) (menuW mj) ∧ ∀ k : Str, (k == Str.ofString "Intent") = false → (valueAt kvf k).getD .none = .none := ⟨[], by assumption, (by rw [menu_emp mj hemp]; exact .none), fun _ _ => rfl⟩
        obtain ⟨vw, hS, hxw⟩ : ∃ vw : List Value, LCg.SrcAt g' lw vw.toArray (Z ++ (pre ++ R0)) ∧ Held (StrsAre vw (wordsOr (menuW mj))) := ⟨[_], .inr ⟨_, (by rw [eZ]; k_mem), rfl, _, rfl⟩, (by rw [menu_emp mj hemp, wordsOr_nil]; exact .cons _ _ .nil)⟩
        refine' MidP.next (ps := [((Str.ofString "source"), .ref src), ((Str.ofString "shelf"), .ref sh), ((Str.ofString "names"), .ref dn), ((Str.ofString "first"), .ref fd)]) (nx := ((src, srcO cl rb (pl + 1) t3b t4b n2b) :: (T, oT1) :: (di, oI1) :: (dn, oN1) :: (tr, oTr) :: (L' + 1 + 1, oc3) :: (Z ++ (pre ++ R0)))) ?tF ?tN ?tn ?tk ?tJ
        (case tF => k_asm)
        (case tN => k_asm)
        (case tn => rw [eZ]; tb_rel)
        (case tk => tb_start)
        (case tJ => exact .mk _ _ _ _ _ _ _ _ _ vw _ kvf hrb (by omega) hcl fds hZ hfm hfD hfi hfo hS hxw)
      · k_with_none
        k_with "compareOp NotEq ref ref" => (k_dflt (refine' ne_nil_K ?yFB ?yNB ?ylB ?ybB ?yuB rfl ?_); (case yFB => k_asm); (case yNB => k_asm); (case ylB => exact menu_list (by k_in) mj (by omega)); (case ybB => k_mem); (case yuB => ktr_units))
        unfold Held
        (rename News _ _ _ _ => lN)
        refine nm 0 _ _ rfl lN ?_
        intro fd fo e1 e2; subst e1; subst e2
        rename ((fd == sysModules) = false) => fds
        rename ((menuV mj).isEmpty = _) => hemp
        rename (_ < fd ∧ _) => lfd
        have zf : ∀ p ∈ pre ++ R0, p.1 ≠ fd := fun p hp => Nat.ne_of_lt (allLt_mem lfd.2.2.2.2.2.2.2 p hp)
        have zf1 : ∀ p ∈ pre, p.1 ≠ fd := fun p hp => zf p (List.mem_append_left _ hp)
        have zf2 : ∀ p ∈ R0, p.1 ≠ fd := fun p hp => zf p (List.mem_append_right _ hp)
        k_with "call!" => ((with_reducible show wpAny _ _ (call (Value.ref 570) _) _ _ _); k_dflt (refine' Ctr.use ?kCB ?k1B ?k2B ?k3B ?k4B ?k5B ?kKB ?kdB ?kuB ?_); (case k4B => k_dflt (exact PullAt.news src (by k_asm) (by kt_at_item))); (case kCB => k_dflt (exact told_menu w _ src cl cells ns nc _ _ _ _ _ (by k_mem) hi hns hns2 (by k_all) (by assumption) (by omega) mj (by omega) hemp)); (case k1B => k_asm); (case k2B => k_asm); (case k3B => k_asm); (case k5B => k_asm); (case kKB => first | exact rfl | assumption); (case kdB => ktr_room); (case kuB => ktr_units); intro rc nc hc tkc Fc Nc pc; (obtain ⟨prec, ric, t3c, t4c, n2c, pc2, e9, hrc, hpc, hIc, hac⟩ := pc; subst e9); (try dsimp only); (try k_fold))
        k_with "KdnMade" => (k_dflt (refine' kdn_made_str ?yFB ?yNB ?yUB ?ydB ?ykB ?ynB ?_; (case yFB => k_asm); (case yNB => k_asm); (case yUB => k_updF); (case ydB => k_asm); (case ykB => rfl); (case ynB => exact of_decide_eq_true (by rfl))); intro hh' oh F' N' hDh; (try dsimp only at N'))
        wrow_steps
        unfold Held
        (rename Fr _ _ _ _ => lF); (rename News _ _ _ _ => lN)
        rename (_ = Data.cell (some _)) => hcl
        refine name_cell hcl ?_
        intro oc3 e9; subst e9
        refine abs_list (((fd, oh) :: prec)) ?_
        intro Z eZ
        have hZ : Apart Z ((src, srcO cl ric pc2 t3c t4c n2c) :: (T, oT1) :: (di, oI1) :: (dn, oN1) :: (tr, oTr) :: (L' + 1 + 1, oc3) :: R0) := by
          rw [eZ]
          exact Apart.cons (by k_all) (Apart.consr (by k_all) (Apart.consr (by k_all) (Apart.consr (by k_all) (Apart.consr (by k_all) (Apart.consr (by k_all) (Apart.consr (by k_all) (hac.mono (by tb_rel))))))))
        have hfm : (fd, oh) ∈ Z := by rw [eZ]; k_mem
        obtain ⟨kvf, hfD, hfi, hfo⟩ : ∃ kvf : List (Str × Value), Obj.IsDictOf (PySem.strKind PySem.Challenge.rw_qd0128_01.prog w) oh kvf ∧ IntentAt Z ((valueAt kvf (Str.ofString "Intent")).getD .none) (menuW mj) ∧ ∀ k : Str, (k == Str.ofString "Intent") = false → (valueAt kvf k).getD .none = .none := ⟨_, hDh, (by rw [eZ]; exact hIc.sub (by tb_rel)), fun k hk => val_one hk⟩
        obtain ⟨vw, hS, hxw⟩ : ∃ vw : List Value, LCg.SrcAt g' (547 + mj) vw.toArray (Z ++ (pre ++ R0)) ∧ Held (StrsAre vw (wordsOr (menuW mj))) := ⟨menuV mj, .inl (menu_list X' mj (by omega)), (by rw [menu_nor (by omega) hemp]; exact menu_are mj)⟩
        refine' MidP.next (ps := [((Str.ofString "source"), .ref src), ((Str.ofString "shelf"), .ref sh), ((Str.ofString "names"), .ref dn), ((Str.ofString "first"), .ref fd)]) (nx := ((src, srcO cl ric pc2 t3c t4c n2c) :: (T, oT1) :: (di, oI1) :: (dn, oN1) :: (tr, oTr) :: (L' + 1 + 1, oc3) :: (Z ++ (pre ++ R0)))) ?tF ?tN ?tn ?tk ?tJ
        (case tF => k_asm)
        (case tN => k_asm)
        (case tn => rw [eZ]; tb_rel)
        (case tk => tb_start)
        (case tJ => exact .mk _ _ _ _ _ _ _ _ _ vw _ kvf hrc (by omega) hcl fds hZ hfm hfD hfi hfo hS hxw)
    case rest9 =>
      clear lF lN
      intro h9 tk9 u9 ps nx F N hJ9
      obtain ⟨r5, p5, t5, t6, n5, oc3, fd, fo, wv, vw, Z, kvf, hr5, hp5, hcl, fds, hZ, hfm, hfD, hfi, hfo, hS, hxw⟩ := hJ9
      dsimp only [kstB] at F
      k_with_none
      wrow_steps
      unfold Held
      (rename Fr _ _ _ _ => lF); (rename News _ _ _ _ => lN)
      rename ((di == sysModules) = false) => dis
      have hdl : (keyed (gs.map menuR)).length = nv := by rw [keyed_length, List.length_map, hgl]
      refine' srcT_D (kvs := keyed (gs.map menuR)) (fun i ys nx => IntsAre ys (counted (wordsOr (menuW mj)) (fun j => menuW (gs.getD j 0)) i) ∧ nx = (src, srcO cl r5 p5 t5 t6 n5) :: (T, oT1) :: (di, oI1) :: (dn, oN1) :: (tr, oTr) :: (L' + 1 + 1, oc3) :: (Z ++ (pre ++ R0))) (by rfl) dis lF lN (by k_mem) hDI (by omega) ⟨counted_nil, rfl⟩ ?dturnA ?dfinA
      case dfinA =>
        clear lF lN
        intro g9 ys nx hJ
        obtain ⟨hJ, e9⟩ := hJ
        subst e9
        rw [hdl] at hJ
        unfold LCg.FinA
        intro D h tk F N o1
        have dn1 : ∀ p ∈ (src, srcO cl r5 p5 t5 t6 n5) :: (T, oT1) :: (di, oI1) :: (dn, oN1) :: (tr, oTr) :: (L' + 1 + 1, oc3) :: (Z ++ (pre ++ R0)), p.1 ≠ D := off1_mem o1
        k_with_none
        wrow_steps
        unfold Held
        (rename Fr _ _ _ _ => lF); (rename News _ _ _ _ => lN)
        refine' srcU_D (kvs := keyed (gs.map menuR)) (fun i ys2 nx => ys2.length = i ∧ ∃ prg, nx = prg ++ (D, LCg.lst ys) :: (src, srcO cl r5 p5 t5 t6 n5) :: (T, oT1) :: (di, oI1) :: (dn, oN1) :: (tr, oTr) :: (L' + 1 + 1, oc3) :: (Z ++ (pre ++ R0)) ∧ Apart prg ((D, LCg.lst ys) :: (src, srcO cl r5 p5 t5 t6 n5) :: (T, oT1) :: (di, oI1) :: (dn, oN1) :: (tr, oTr) :: (L' + 1 + 1, oc3) :: (Z ++ (pre ++ R0))) ∧ ∀ (j : Nat) v, ys2[j]? = some v → RefAt prg v ((j : Int) + 1)) (by rfl) dis lF lN (by k_mem) hDI (by omega) ⟨rfl, [], rfl, Apart.nil, (fun j v h => by simp at h)⟩ ?gturnA ?gfinA
        case gfinA =>
          clear lF lN
          intro g8 gv nx hJ8
          obtain ⟨hgn, prg, e9, hag, hgr⟩ := hJ8
          subst e9
          rw [hdl] at hgn
          unfold LCg.FinA
          intro D8 h tk F N o1
          have dn8 : ∀ p ∈ prg ++ (D, LCg.lst ys) :: (src, srcO cl r5 p5 t5 t6 n5) :: (T, oT1) :: (di, oI1) :: (dn, oN1) :: (tr, oTr) :: (L' + 1 + 1, oc3) :: (Z ++ (pre ++ R0)), p.1 ≠ D8 := off1_mem o1
          have d1 : @Ne Nat tr D := dn1 (tr, oTr) (by k_mem)
          have d2 : @Ne Nat tr D8 := dn8 (tr, oTr) (by k_mem)
          have d3 : @Ne Nat src D := dn1 (src, srcO cl r5 p5 t5 t6 n5) (by k_mem)
          have d4 : @Ne Nat src D8 := dn8 (src, srcO cl r5 p5 t5 t6 n5) (by k_mem)
          have d5 : @Ne Nat tr src := by omega
          refine abs_list ((D8, LCg.lst gv) :: (prg ++ (D, LCg.lst ys) :: (T, oT1) :: (di, oI1) :: (dn, oN1) :: (L' + 1 + 1, oc3) :: (Z ++ (pre ++ R0)))) ?_
          intro R9 e9
          have r1 : ∀ p ∈ R9, p.1 ≠ tr := by rw [e9]; k_all
          have r2 : ∀ p ∈ R9, p.1 ≠ src := by rw [e9]; k_all
          have x1 : (D8, LCg.lst gv) ∈ R9 := by rw [e9]; k_mem
          have x2 : (D, LCg.lst ys) ∈ R9 := by rw [e9]; k_mem
          have x3 : (T, oT1) ∈ R9 := by rw [e9]; k_mem
          have x4 : (dn, oN1) ∈ R9 := by rw [e9]; k_mem
          have x5 : ∀ p ∈ prg, p ∈ R9 := by rw [e9]; tb_rel
          have x6 : ∀ p ∈ Z, p ∈ R9 := by rw [e9]; tb_rel
          have x7 : ∀ p ∈ pre ++ R0, p ∈ R9 := by rw [e9]; tb_rel
          have x8 : ∀ p ∈ R0, p ∈ R9 := fun p hp => x7 p (List.mem_append_right _ hp)
          have x9 := x8 _ b1
          have x10 := x8 _ b2
          have x11 := x8 _ b4
          have x12 := x6 _ hfm
          replace N := cb_drop (news := (tr, oTr) :: (src, srcO cl r5 p5 t5 t6 n5) :: R9) N (by rw [e9]; tb_rel)
          clear e9
          wrow_steps
          unfold Held
          (rename News _ _ _ _ => lN)
          refine nm 0 _ _ rfl lN ?_
          intro d0 od e1 e2; subst e1; subst e2
          rename (_ < d0 ∧ _) => ld0
          have r3 : ∀ p ∈ R9, p.1 ≠ d0 := fun p hp => Nat.ne_of_lt (allLt_mem ld0.2.2 p hp)
          k_with "KdnMade" => (k_dflt (refine' kdn_made_str ?yFA ?yNA ?yUA ?ydA ?ykA ?ynA ?_; (case yFA => k_asm); (case yNA => k_asm); (case yUA => k_updF); (case ydA => k_asm); (case ykA => rfl); (case ynA => exact of_decide_eq_true (by rfl))); intro hh' oh F' N' hDh; (try dsimp only at N'))
          k_with "setItem ref str" => (k_dflt (refine' kda_set (knd := PySem.strKind _ _) ?yFA ?yNA ?yUA hTr0 (strKind_is _ _ _ _) ?yzA ?_; (case yFA => k_asm); (case yNA => k_asm); (case yUA => k_updF); (case yzA => rw [sizeLine_eq]; exact Nat.le_of_ble_eq_true (by with_unfolding_all rfl))); intro h' oTr2 F' N' hDtr; (try dsimp only at N'))
          k_with "call!" => ((with_reducible show wpAny _ _ (call (Value.ref 190) _) _ _ _); k_dflt (refine' Ctr.use ?kCA ?k1A ?k2A ?k3A ?k4A ?k5A ?kKA ?kdA ?kuA ?_); (case k4A => k_asm); (case kCA => k_dflt (exact name_mk w _ _ _)); (case k1A => k_asm); (case k2A => k_asm); (case k3A => k_asm); (case k5A => k_asm); (case kKA => first | exact rfl | assumption); (case kdA => ktr_room); (case kuA => ktr_units); intro rg ng hg tkg Fg Ng pg; (obtain ⟨preg, e8, hng, hag⟩ := pg; subst e8); (try dsimp only); (try k_fold))
          wrow_steps
          refine' hret _ _ _ _ ?e1A ?e2A ?e3A
          case e1A => k_asm
          case e2A => exact PullAt.news src (by k_asm) (by kt_at_item)
          case e3A =>
            refine' ⟨_, _, _, _, _, _, sh, D, dn, _, _, oN1, gs, bs, mj, vb, kvs, D8, gv, _, .ref fd, kvf, ys, _, rfl, ?y1A, ?yRA, ?y0A, hr5, ?o1A, rfl, ?y2A, ?y3A, ?o2A, ?o3A, ?o4A, ?y4A, ?y5A, ?y6A, hfo, ?y7A, ?y8A, ?y9A, hDN, hvb, ?y10A⟩
            case o1A => omega
            case o2A => omega
            case o3A => omega
            case o4A => omega
            case y0A => k_mem
            case yRA => exact fun p hp => (by have q := x8 p (b5 p hp); k_mem)
            case y1A => exact NeAll.to (NeAll.cons (by dsimp only; exact Nat.ne_of_gt (news_lt (by with_reducible assumption) (by k_mem))) (by kt_at_method))
            case y2A => k_mem
            case y3A => exact ⟨tr, _, _, _, _, _, ⟨dsh, T, a1, a2, a3, a4, a5, oT1, by k_mem, by k_mem, by k_mem, hD, loT⟩, ⟨tr, oTr2, rfl, by k_mem, hDtr, loTr⟩, by with_unfolding_all rfl, ⟨d0, _, rfl, by k_mem, hDh, by assumption⟩, by with_unfolding_all rfl, ⟨_, _, rfl, by k_mem, by assumption, by assumption⟩, by with_unfolding_all rfl, by k_mem, by with_unfolding_all rfl, ⟨fd, _, rfl, by k_mem, hfD, fds⟩⟩
            case y4A => exact fun i v e => (hgr i v e).sub fun p hp => (by have q := x5 p hp; k_mem)
            case y5A => exact fun j m b e1 e2 => (let ⟨hv, kvh, g⟩ := hG j m b e1 e2; ⟨hv, kvh, g.sub fun p hp => (by have q := x7 p hp; k_mem)⟩)
            case y6A => exact hfi.sub fun p hp => (by have q := x6 p hp; k_mem)
            case y7A => k_mem
            case y8A => rw [hgn]; exact hJ
            case y9A => k_mem
            case y10A => assumption
        case gturnA =>
          clear lF lN
          intro i k v t ys2 nx I oI C oC D8 m₂ h tk E' hkv hJ8 hC hx F N o3 n3
          obtain ⟨hgn, prg, e9, hag, hgr⟩ := hJ8
          subst e9
          obtain ⟨ek, hvi⟩ := keyed_get hkv
          subst ek
          k_with_none
          k_with "call!" => ((with_reducible show wpAny _ _ (call (Value.ref 261) _) _ _ _); k_dflt (refine' Ctr.use ?kCA ?k1A ?k2A ?k3A ?k4A ?k5A ?kKA ?kdA ?kuA ?_); (case k4A => k_asm); (case kCA => k_dflt (exact ref_mk w _ _ _ _)); (case k1A => k_asm); (case k2A => k_asm); (case k3A => k_asm); (case k5A => k_asm); (case kKA => first | exact rfl | assumption); (case kdA => ktr_room); (case kuA => ktr_units); intro rr nr hr tkr Fr Nr pr; (obtain ⟨prer, e8, hrr, har⟩ := pr; subst e8); (try dsimp only); (try k_fold))
          wrow_steps
          unfold Held
          k_dflt (refine' end_app (pre := prer) (nx := prg ++ (D, LCg.lst ys) :: (src, srcO cl r5 p5 t5 t6 n5) :: (T, oT1) :: (di, oI1) :: (dn, oN1) :: (tr, oTr) :: (L' + 1 + 1, oc3) :: (Z ++ (pre ++ R0))) ?qFA ?qNA ?qaA ?qoA ?qSA ?qrA)
          case qFA => k_asm
          case qNA => k_asm
          case qaA => exact har
          case qoA => assumption
          case qSA => k_mem
          case qrA => exact ⟨by rw [List.length_append, List.length_singleton, hgn], prer ++ prg, (List.append_assoc _ _ _).symm, Apart.append (har.mono (by tb_rel)) hag, refs_snoc hgn hgr (by tb_rel) (hrr.sub (by tb_rel))⟩
      case dturnA =>
        clear lF lN
        intro i k v t ys nx I oI C oC D m₂ h tk E' hkv hJ hC hx F N o3 n3
        obtain ⟨hJ, e9⟩ := hJ
        subst e9
        obtain ⟨ek, hvi⟩ := keyed_get hkv
        subst ek
        obtain ⟨gi, hgi, ev⟩ := map_get hvi
        subst ev
        have hg6 : gi < 6 := hm6 gi (List.mem_of_getElem? hgi)
        have hgw : menuW (gs.getD i 0) = menuW gi := by simp [List.getD, hgi]
        unfold menuR at hkv
        replace hvi : (gs.map menuR)[i]? = some (Value.ref (547 + gi)) := hvi
        k_with_none
        k_with "compareOp In str ref" => (k_dflt (refine' in_S ?wFA ?wNA ?wSA ?wxA ?wbA ?_; (case wFA => k_asm); (case wNA => k_asm); (case wSA => exact srcAt_sub (by tb_rel) hS); (case wxA => exact hxw); (case wbA => exact hAll)))
        cases hAll : ((wordsOr (menuW mj)).any (· == Str.ofString "All")) with
        | true =>
          wrow_steps
          unfold Held
          (k_dflt (refine' end_same (news := (src, srcO cl r5 p5 t5 t6 n5) :: (T, oT1) :: (di, oI1) :: (dn, oN1) :: (tr, oTr) :: (L' + 1 + 1, oc3) :: (Z ++ (pre ++ R0))) ?qFA ?qNA ?qsA ?qoA ?qSA ?qrA); (case qFA => k_asm); (case qNA => k_asm); (case qsA => tb_rel); (case qoA => assumption); (case qSA => first | assumption | k_mem); (case qrA => (rw [counted_all_succ hAll]; exact IntsAre.snoc hJ _ _)))
        | false =>
          cases hge : (menuV gi).isEmpty with
          | true =>
            k_with "subscriptTail" => ((with_reducible show wpAny _ _ (subscriptTail _ _ (Value.ref di) _) _ _ _); k_dflt (refine' kda_item (knd := PySem.intKind _ _) ?yNA ?ymA hDI (intKind_is _ _ _ _) (keyed_at _ _ rfl hvi) ?_ ?yhA ?ygA); (case yNA => k_asm); (case ymA => k_mem); (case yhA => with_unfolding_all rfl); (case ygA => intro _; with_unfolding_all rfl))
            k_with "truthy ref" => (k_dflt (refine' truthy_S (xs := menuV gi) (b := false) ?wFA ?wNA ?wSA ?wzA ?wbA ?_; (case wFA => k_asm); (case wNA => k_asm); (case wSA => exact .inl (menu_list (by k_in) gi hg6)); (case wzA => exact menu_small gi); (case wbA => rw [hge]; first | done | rfl)); intro tk9)
            wrow_steps
            (rename Fr _ _ _ _ => lF); (rename News _ _ _ _ => lN)
            unfold Held
            k_dflt (refine' compT_S (xs := _) (fun j zs => StrsAre zs (((wordsOr (menuW gi)).take j).filter fun x => (wordsOr (menuW mj)).any (· == x))) (by rfl) lF lN ?S7A ?z7A .nil ?turn7A ?fin7A)
            case S7A => (refine' .inr ⟨_, ?smA, ?saA, _, ?sbA⟩; (case smA => k_mem); (case saA => rfl); (case sbA => rfl))
            case z7A => exact Nat.le_of_ble_eq_true rfl
            case turn7A =>
              clear lF lN
              intro j v2 zs I2 oI2 C2 oC2 D2 m2 h2 tk2 E2 hv hJ2 hS2 hC2 hx2 F N o32 n32
              obtain ⟨x, t9, hxq, ev⟩ := strs_get (ns := wordsOr (menuW gi)) (by rw [menu_or hge]; exact .cons _ _ .nil) hv
              subst ev
              k_with "compareOp In str ref" => (k_dflt (refine' in_S ?wFA ?wNA ?wSA ?wxA ?wbA ?_; (case wFA => k_asm); (case wNA => k_asm); (case wSA => exact srcAt_sub (by tb_rel) hS); (case wxA => exact hxw); (case wbA => exact hb)))
              cases hb : ((wordsOr (menuW mj)).any (· == x)) with
              | true =>
                wrow_steps
                unfold Held
                (k_dflt (refine' end_same ?qFA ?qNA ?qsA ?qoA ?qSA ?qrA); (case qFA => k_asm); (case qNA => k_asm); (case qsA => tb_rel); (case qoA => assumption); (case qSA => first | assumption | k_mem); (case qrA => (rw [take_snoc hxq, List.filter_append, List.filter_cons_of_pos (by exact hb), List.filter_nil]; exact kct_snoc hJ2)))
              | false =>
                wrow_steps
                unfold Held
                (k_dflt (refine' end_same ?qFA ?qNA ?qsA ?qoA ?qSA ?qrA); (case qFA => k_asm); (case qNA => k_asm); (case qsA => tb_rel); (case qoA => assumption); (case qSA => first | assumption | k_mem); (case qrA => (rw [take_snoc hxq, List.filter_append, List.filter_cons_of_neg (by rw [hb]; exact Bool.false_ne_true), List.filter_nil, List.append_nil]; exact hJ2)))
            case fin7A =>
              clear lF lN
              intro g2 zs hJ2
              replace hJ2 : StrsAre zs ((wordsOr (menuW gi)).filter fun x => (wordsOr (menuW mj)).any (· == x)) := (by rw [menu_or hge] at hJ2 ⊢; exact hJ2)
              unfold LCg.FinE
              intro D2 h2 tk2 F N o1
              cases hb : hit (wordsOr (menuW mj)) (wordsOr (menuW gi)) with
              | true =>
                have hq9 : (!zs.isEmpty) = true := (filter_ne hJ2).trans hb
                k_with "compareOp NotEq ref ref" => (k_dflt (refine' ne_nil_L ?wNA ?wlA ?wbA ?wuA ?wtA ?_); (case wNA => k_asm); (case wlA => k_mem); (case wbA => k_mem); (case wuA => ktr_units); (case wtA => exact hq9))
                wrow_steps
                unfold Held
                (k_dflt (refine' end_same (news := (src, srcO cl r5 p5 t5 t6 n5) :: (T, oT1) :: (di, oI1) :: (dn, oN1) :: (tr, oTr) :: (L' + 1 + 1, oc3) :: (Z ++ (pre ++ R0))) ?qFA ?qNA ?qsA ?qoA ?qSA ?qrA); (case qFA => k_asm); (case qNA => k_asm); (case qsA => tb_rel); (case qoA => assumption); (case qSA => first | assumption | k_mem); (case qrA => (rw [counted_hit hAll (by rw [hgw]; exact hb)]; exact IntsAre.snoc hJ _ _)))
              | false =>
                have hq9 : (!zs.isEmpty) = false := (filter_ne hJ2).trans hb
                k_with "compareOp NotEq ref ref" => (k_dflt (refine' ne_nil_L ?wNA ?wlA ?wbA ?wuA ?wtA ?_); (case wNA => k_asm); (case wlA => k_mem); (case wbA => k_mem); (case wuA => ktr_units); (case wtA => exact hq9))
                wrow_steps
                unfold Held
                (k_dflt (refine' end_same (news := (src, srcO cl r5 p5 t5 t6 n5) :: (T, oT1) :: (di, oI1) :: (dn, oN1) :: (tr, oTr) :: (L' + 1 + 1, oc3) :: (Z ++ (pre ++ R0))) ?qFA ?qNA ?qsA ?qoA ?qSA ?qrA); (case qFA => k_asm); (case qNA => k_asm); (case qsA => tb_rel); (case qoA => assumption); (case qSA => first | assumption | k_mem); (case qrA => (rw [counted_miss hAll (by rw [hgw]; exact hb)]; exact hJ)))
          | false =>
            k_with "subscriptTail" => ((with_reducible show wpAny _ _ (subscriptTail _ _ (Value.ref di) _) _ _ _); k_dflt (refine' kda_item (knd := PySem.intKind _ _) ?yNA ?ymA hDI (intKind_is _ _ _ _) (keyed_at _ _ rfl hvi) ?_ ?yhA ?ygA); (case yNA => k_asm); (case ymA => k_mem); (case yhA => with_unfolding_all rfl); (case ygA => intro _; with_unfolding_all rfl))
            k_with "truthy ref" => (k_dflt (refine' truthy_S (xs := menuV gi) (b := true) ?wFA ?wNA ?wSA ?wzA ?wbA ?_; (case wFA => k_asm); (case wNA => k_asm); (case wSA => exact .inl (menu_list (by k_in) gi hg6)); (case wzA => exact menu_small gi); (case wbA => rw [hge]; first | done | rfl)); intro tk9)
            wrow_steps
            (rename Fr _ _ _ _ => lF); (rename News _ _ _ _ => lN)
            unfold Held
            k_dflt (refine' compT_S (xs := (menuV gi)) (fun j zs => StrsAre zs (((wordsOr (menuW gi)).take j).filter fun x => (wordsOr (menuW mj)).any (· == x))) (by rfl) lF lN ?S8A ?z8A .nil ?turn8A ?fin8A)
            case S8A => (exact .inl (menu_list (by k_in) gi hg6))
            case z8A => exact menu_small gi
            case turn8A =>
              clear lF lN
              intro j v2 zs I2 oI2 C2 oC2 D2 m2 h2 tk2 E2 hv hJ2 hS2 hC2 hx2 F N o32 n32
              obtain ⟨x, t9, hxq, ev⟩ := strs_get (ns := wordsOr (menuW gi)) (by rw [menu_nor hg6 hge]; exact menu_are gi) hv
              subst ev
              k_with "compareOp In str ref" => (k_dflt (refine' in_S ?wFA ?wNA ?wSA ?wxA ?wbA ?_; (case wFA => k_asm); (case wNA => k_asm); (case wSA => exact srcAt_sub (by tb_rel) hS); (case wxA => exact hxw); (case wbA => exact hb)))
              cases hb : ((wordsOr (menuW mj)).any (· == x)) with
              | true =>
                wrow_steps
                unfold Held
                (k_dflt (refine' end_same ?qFA ?qNA ?qsA ?qoA ?qSA ?qrA); (case qFA => k_asm); (case qNA => k_asm); (case qsA => tb_rel); (case qoA => assumption); (case qSA => first | assumption | k_mem); (case qrA => (rw [take_snoc hxq, List.filter_append, List.filter_cons_of_pos (by exact hb), List.filter_nil]; exact kct_snoc hJ2)))
              | false =>
                wrow_steps
                unfold Held
                (k_dflt (refine' end_same ?qFA ?qNA ?qsA ?qoA ?qSA ?qrA); (case qFA => k_asm); (case qNA => k_asm); (case qsA => tb_rel); (case qoA => assumption); (case qSA => first | assumption | k_mem); (case qrA => (rw [take_snoc hxq, List.filter_append, List.filter_cons_of_neg (by rw [hb]; exact Bool.false_ne_true), List.filter_nil, List.append_nil]; exact hJ2)))
            case fin8A =>
              clear lF lN
              intro g2 zs hJ2
              replace hJ2 : StrsAre zs ((wordsOr (menuW gi)).filter fun x => (wordsOr (menuW mj)).any (· == x)) := (by rw [menu_nor hg6 hge] at hJ2 ⊢; rw [(menu_are gi).length, List.take_length] at hJ2; exact hJ2)
              unfold LCg.FinE
              intro D2 h2 tk2 F N o1
              cases hb : hit (wordsOr (menuW mj)) (wordsOr (menuW gi)) with
              | true =>
                have hq9 : (!zs.isEmpty) = true := (filter_ne hJ2).trans hb
                k_with "compareOp NotEq ref ref" => (k_dflt (refine' ne_nil_L ?wNA ?wlA ?wbA ?wuA ?wtA ?_); (case wNA => k_asm); (case wlA => k_mem); (case wbA => k_mem); (case wuA => ktr_units); (case wtA => exact hq9))
                wrow_steps
                unfold Held
                (k_dflt (refine' end_same (news := (src, srcO cl r5 p5 t5 t6 n5) :: (T, oT1) :: (di, oI1) :: (dn, oN1) :: (tr, oTr) :: (L' + 1 + 1, oc3) :: (Z ++ (pre ++ R0))) ?qFA ?qNA ?qsA ?qoA ?qSA ?qrA); (case qFA => k_asm); (case qNA => k_asm); (case qsA => tb_rel); (case qoA => assumption); (case qSA => first | assumption | k_mem); (case qrA => (rw [counted_hit hAll (by rw [hgw]; exact hb)]; exact IntsAre.snoc hJ _ _)))
              | false =>
                have hq9 : (!zs.isEmpty) = false := (filter_ne hJ2).trans hb
                k_with "compareOp NotEq ref ref" => (k_dflt (refine' ne_nil_L ?wNA ?wlA ?wbA ?wuA ?wtA ?_); (case wNA => k_asm); (case wlA => k_mem); (case wbA => k_mem); (case wuA => ktr_units); (case wtA => exact hq9))
                wrow_steps
                unfold Held
                (k_dflt (refine' end_same (news := (src, srcO cl r5 p5 t5 t6 n5) :: (T, oT1) :: (di, oI1) :: (dn, oN1) :: (tr, oTr) :: (L' + 1 + 1, oc3) :: (Z ++ (pre ++ R0))) ?qFA ?qNA ?qsA ?qoA ?qSA ?qrA); (case qFA => k_asm); (case qNA => k_asm); (case qsA => tb_rel); (case qoA => assumption); (case qSA => first | assumption | k_mem); (case qrA => (rw [counted_miss hAll (by rw [hgw]; exact hb)]; exact hJ)))
  clear lF lN
  intro i t' ps nx u h tk own hin hJ hoff F N
  k_with_none
  obtain ⟨gs, bs, hJ, e2⟩ := hJ
  obtain ⟨r1, pl, t3, t4, n2, oT1, oI1, oN1, pre, kvs, vb, e1, hr1, hpl, hD, hDI, hDN, hK, hKl, hgl, hbl, hvb, hm6, hap, hapK, hG⟩ := hJ
  subst e1; subst e2
  dsimp only [kstB, envOfC, envX] at F N hoff
  have hi9 : i < 4 := by omega
  replace hapK : Held (Apart pre K0) := hapK
  refine abs_list (own ++ K0) ?_
  intro ow eow
  have hoffK : Apart own K0 := hoff.mono (by tb_rel)
  have hown : ∀ p ∈ own, p ∈ ow := by rw [eow]; tb_rel
  have hKow : ∀ p ∈ K0, p ∈ ow := by rw [eow]; tb_rel
  replace hoff : Apart ow ((src, srcO cl r1 pl t3 t4 n2) :: (T, oT1) :: (di, oI1) :: (dn, oN1) :: (pre ++ R0)) := by
    rw [eow]
    exact Apart.append (hoff.mono (by tb_rel)) (hK0.five2 (held hapK).symm)

  replace N := cb_drop (news := (src, _) :: (T, _) :: (di, _) :: (dn, _) :: (ow ++ (pre ++ R0))) N (by rw [eow]; tb_rel)
  have hml := (menu_look w).1
  have w1 : (keyed (gs.map menuR)).length ≤ 1000 := by rw [keyed_length, List.length_map]; omega
  have w2 : (keyed vb).length ≤ 1000 := by rw [keyed_length, hvb.length]; omega
  k_with "call!" => ((with_reducible show wpAny _ _ (call (Value.ref 565) _) _ _ _); k_dflt (refine' Ctr.use ?kC ?k1 ?k2 ?k3 ?k4 ?k5 ?kK ?kd ?ku ?_); (case k4 => k_dflt (exact PullAt.news src (by k_asm) (by kt_at_item))); (case kC => k_dflt (exact take_ok w _ src cl cells ns nc _ _ _ _ _ _ _ (by k_mem) hi hns hns2 (by k_all) (by assumption) (by omega) (by decide) (by decide))); (case k1 => k_asm); (case k2 => k_asm); (case k3 => k_asm); (case k5 => k_asm); (case kK => first | exact rfl | assumption); (case kd => ktr_room); (case ku => ktr_units); intro rb nb hb tkb Fb Nb pb; (obtain ⟨vb, tvb, rb, t3b, t4b, n2b, e8, hv0b, hv1b, hrb, e9⟩ := pb; subst e8; subst e9; refine abs_int hv0b hv1b ?_; intro hp3 hhp3 e9; subst e9); (try dsimp only); (try k_fold))
  k_with "call!" => ((have q9 := hp3); clear q9; (with_reducible show wpAny _ _ (call (Value.ref 565) _) _ _ _); k_dflt (refine' Ctr.use ?kC ?k1 ?k2 ?k3 ?k4 ?k5 ?kK ?kd ?ku ?_); (case k4 => k_dflt (exact PullAt.news src (by k_asm) (by kt_at_item))); (case kC => k_dflt (exact take_ok w _ src cl cells ns nc _ _ _ _ _ _ _ (by k_mem) hi hns hns2 (by k_all) (by assumption) (by omega) (by decide) (by decide))); (case k1 => k_asm); (case k2 => k_asm); (case k3 => k_asm); (case k5 => k_asm); (case kK => first | exact rfl | assumption); (case kd => ktr_room); (case ku => ktr_units); intro rc nc hc tkc Fc Nc pc; (obtain ⟨vc, tvc, rc, t3c, t4c, n2c, e8, hv0c, hv1c, hrc, e9⟩ := pc; subst e8; subst e9; refine abs_int hv0c hv1c ?_; intro mc hmc e9; subst e9); (try dsimp only); (try k_fold))
  k_with "call!" => ((have q9 := mc); clear q9; (with_reducible show wpAny _ _ (call (Value.ref 565) _) _ _ _); k_dflt (refine' Ctr.use ?kC ?k1 ?k2 ?k3 ?k4 ?k5 ?kK ?kd ?ku ?_); (case k4 => k_dflt (exact PullAt.news src (by k_asm) (by kt_at_item))); (case kC => k_dflt (exact take_ok w _ src cl cells ns nc _ _ _ _ _ _ _ (by k_mem) hi hns hns2 (by k_all) (by assumption) (by omega) (by decide) (by decide))); (case k1 => k_asm); (case k2 => k_asm); (case k3 => k_asm); (case k5 => k_asm); (case kK => first | exact rfl | assumption); (case kd => ktr_room); (case ku => ktr_units); intro rd nd hd tkd Fd Nd pd; (obtain ⟨vd, tvd, rd, t3d, t4d, n2d, e8, hv0d, hv1d, hrd, e9⟩ := pd; subst e8; subst e9; refine abs_int hv0d hv1d ?_; intro kd hkd e9; subst e9); (try dsimp only); (try k_fold))
  k_with "subscriptTail" => ((with_reducible show wpAny _ _ (subscriptTail _ _ (Value.ref 553) _) _ _ _); k_dflt (refine' tup_K ?yF ?yX hml.2.2.2.2.2.2 ?y0 ?y1 ?y2 (menu_at mc (by omega)) ?_ ?yh); (case yF => k_asm); (case yX => k_in); (case y0 => omega); (case y1 => (simp; omega)); (case y2 => omega); (case yh => with_unfolding_all rfl))
  k_with "setItem ref int" => ((with_reducible show wpAny _ _ (setItem (Value.ref di) _ _) _ _ _); k_dflt (refine' kda_set (knd := PySem.intKind _ _) ?yF ?yN ?yU hDI (intKind_is _ _ _ _) ?yz ?_; (case yF => k_asm); (case yN => k_dflt (exact cb_drop (news := (src, _) :: (T, _) :: (di, _) :: (dn, _) :: (ow ++ (pre ++ R0))) (by k_asm) (by tb_rel))); (case yU => k_updF); (case yz => rw [sizeLine_eq]; omega)); intro h' oI2 F' N' hDI2; (rw [stored_keyed (by rw [List.length_map]; omega)] at hDI2); (try dsimp only at N'))
  k_with "setItem ref int" => ((with_reducible show wpAny _ _ (setItem (Value.ref dn) _ _) _ _ _); k_dflt (refine' kda_set (knd := PySem.intKind _ _) ?yF ?yN ?yU hDN (intKind_is _ _ _ _) ?yz ?_; (case yF => k_asm); (case yN => k_dflt (exact cb_drop (news := (src, _) :: (T, _) :: (di, _) :: (dn, _) :: (ow ++ (pre ++ R0))) (by k_asm) (by tb_rel))); (case yU => k_updF); (case yz => rw [sizeLine_eq]; omega)); intro h' oN2 F' N' hDN2; (rw [stored_keyed (by rw [hvb.length]; omega)] at hDN2); (try dsimp only at N'))
  k_with "binaryOp Mult ref int" => (k_dflt (refine' mul_L ?yF ?yN ?ym ?y0 ?y1 ?_; (case yF => k_asm); (case yN => k_asm); (case ym => k_mem); (case y0 => omega); (case y1 => omega)); intro lm h' F' N' llm)
  k_with "call type:bytes" => (k_dflt (refine' bytes_L ?yF ?yN ?ym (rep_ints _) ?yr ?yz ?yh ?_; (case yF => k_asm); (case yN => k_asm); (case ym => k_mem); (case yr => (intro x hx; rw [List.eq_of_mem_replicate hx]; omega)); (case yz => (rw [List.length_replicate]; omega)); (case yh => rfl)); intro h' tb kb F' N')
  wrow_steps
  unfold Held
  (rename News _ _ _ _ => lN)
  refine nm 0 _ _ rfl lN ?_
  intro hd0 od e1 e2; subst e1; subst e2

  rename ((hd0 == sysModules) = false) => hd0s
  rename (src < hd0 ∧ _) => lh
  have z0 : ∀ p ∈ ow ++ (pre ++ R0), p.1 ≠ hd0 := fun p hp => Nat.ne_of_lt (allLt_mem lh.2.2.2.2 p hp)
  have z1 : ∀ p ∈ R0, p.1 ≠ hd0 := fun p hp => z0 p (List.mem_append_right _ (List.mem_append_right _ hp))
  have z2 : @Ne Nat src hd0 := by omega
  have z3 : @Ne Nat T hd0 := by omega
  have z4 : @Ne Nat di hd0 := by omega
  have z5 : @Ne Nat dn hd0 := by omega
  have z6 : ∀ p ∈ ow, p.1 ≠ hd0 := fun p hp => z0 p (List.mem_append_left _ hp)
  have z7 : ∀ p ∈ pre, p.1 ≠ hd0 := fun p hp => z0 p (List.mem_append_right _ (List.mem_append_left _ hp))
  k_with "call!" => ((with_reducible show wpAny _ _ (call (Value.ref 190) _) _ _ _); k_dflt (refine' Ctr.use ?kC ?k1 ?k2 ?k3 ?k4 ?k5 ?kK ?kd ?ku ?_); (case k4 => k_asm); (case kC => k_dflt (exact name_mk w _ _ _)); (case k1 => k_asm); (case k2 => k_asm); (case k3 => k_asm); (case k5 => k_asm); (case kK => first | exact rfl | assumption); (case kd => ktr_room); (case ku => ktr_units); intro rg ng hg tkg Fg Ng pg; (obtain ⟨preg, e8, hng, hag⟩ := pg; subst e8); (try dsimp only); (try k_fold))
  k_with "call!" => ((with_reducible show wpAny _ _ (call (Value.ref 212) _) _ _ _); k_dflt (refine' Ctr.use ?kC ?k1 ?k2 ?k3 ?k4 ?k5 ?kK ?kd ?ku ?_); (case k4 => k_asm); (case kC => k_dflt (exact string_mk w _ _ _)); (case k1 => k_asm); (case k2 => k_asm); (case k3 => k_asm); (case k5 => k_asm); (case kK => first | exact rfl | assumption); (case kd => ktr_room); (case ku => ktr_units); intro rf nf hf tkf Ff Nf pf; (obtain ⟨pref, e8, hnf, haf⟩ := pf; subst e8); (try dsimp only); (try k_fold))
  k_with "subscriptTail" => ((with_reducible show wpAny _ _ (subscriptTail _ _ (Value.ref dn) _) _ _ _); k_dflt (refine' kda_item (knd := PySem.intKind _ _) ?yN ?ym hDN2 (intKind_is _ _ _ _) (keyed_last ?yk) ?_ ?yh ?yg); (case yN => k_asm); (case ym => k_mem); (case yk => rw [hvb.length]; omega); (case yh => with_unfolding_all rfl); (case yg => intro _; with_unfolding_all rfl))
  k_with "subscriptTail" => ((with_reducible show wpAny _ _ (subscriptTail _ _ (Value.ref di) _) _ _ _); k_dflt (refine' kda_item (knd := PySem.intKind _ _) ?yN ?ym hDI2 (intKind_is _ _ _ _) (keyed_last ?yk) ?_ ?yh ?yg); (case yN => k_asm); (case ym => k_mem); (case yk => rw [List.length_map]; omega); (case yh => with_unfolding_all rfl); (case yg => intro _; with_unfolding_all rfl))
  k_with "KdnMade" => (k_dflt (refine' kdn_made_str ?yF ?yN ?yU ?yd ?yk ?yn ?_; (case yF => k_asm); (case yN => k_asm); (case yU => k_updF); (case yd => k_asm); (case yk => rfl); (case yn => exact of_decide_eq_true (by rfl))); intro hh' oh F' N' hDh; (try dsimp only at N'))
  k_with "compareOp NotEq ref ref" => (k_dflt (refine' ne_nil_K ?yF ?yN ?yl ?yb ?yu rfl ?_); (case yF => k_asm); (case yN => k_asm); (case yl => exact menu_list (by k_in) mc (by omega)); (case yb => k_mem); (case yu => ktr_units))
  wrow_steps

  k_with "call!" => ((with_reducible show wpAny _ _ (call (Value.ref 341) _) _ _ _); k_dflt (refine' Ctr.use ?kC ?k1 ?k2 ?k3 ?k4 ?k5 ?kK ?kd ?ku ?_); (case k4 => k_dflt (exact PullAt.news T (by k_asm) (by kt_at_item))); (case kC => k_dflt (exact put_ok w _ _ sh tr dsh T _ _ _ _ _ _ _ _ _ _ (by k_mem) (by k_mem) hD2 (by k_all) (by omega))); (case k1 => k_asm); (case k2 => k_asm); (case k3 => k_asm); (case k5 => k_asm); (case kK => first | exact rfl | assumption); (case kd => ktr_room); (case ku => ktr_units); intro rp np hp tkp Fp Np pp; (obtain ⟨e8, oT3, tp, ot, e9, hco, hD3, hlt3⟩ := pp; subst e8; subst e9); (try dsimp only); (try k_fold))
  k_with "call!" => ((with_reducible show wpAny _ _ (call (Value.ref 261) _) _ _ _); k_dflt (refine' Ctr.use ?kC ?k1 ?k2 ?k3 ?k4 ?k5 ?kK ?kd ?ku ?_); (case k4 => k_asm); (case kC => k_dflt (exact ref_mk w _ _ _ _)); (case k1 => k_asm); (case k2 => k_asm); (case k3 => k_asm); (case k5 => k_asm); (case kK => first | exact rfl | assumption); (case kd => ktr_room); (case ku => ktr_units); intro rr nr hr tkr Fr Nr pr; (obtain ⟨prer, e8, hrr, har⟩ := pr; subst e8); (try dsimp only); (try k_fold))

  · unfold Held
    (rename Fr _ _ _ _ => lF)
    rename ((menuV mc).isEmpty = _) => hemp
    refine abs_list ((hd0, oh) :: (pref ++ (preg ++ pre))) ?_
    intro Q eQ
    have hQ : Apart Q ((src, srcO cl rd (pl + 1 + 1 + 1) t3d t4d n2d) :: (T, oT1) :: (di, oI2) :: (dn, oN2) :: R0) := by
      rw [eQ]
      exact Apart.cons (by k_all) (Apart.append (haf.five (by k_mem) (by k_mem) (by k_mem) (by k_mem) (by tb_rel)) (Apart.append (hag.five (by k_mem) (by k_mem) (by k_mem) (by k_mem) (by tb_rel)) (hap.five (by k_mem) (by k_mem) (by k_mem) (by k_mem) (by tb_rel))))
    have hQo : Apart Q ow := by
      rw [eQ]
      exact Apart.cons (fun q hq => z0 q (List.mem_append_left _ hq)) (Apart.append (haf.mono (by tb_rel)) (Apart.append (hag.mono (by tb_rel)) (hoff.mono (by tb_rel)).symm))
    have hH : HeadAt w (Q ++ R0) (.ref hd0) (byteArr (List.replicate (kd : Int).toNat (65 + (1 + (i : Int))))) (menuW mc) := by
      rw [eQ]
      exact head_plain (by k_mem) hDh hd0s (hng.sub (by tb_rel)) (hnf.sub (by tb_rel)) (menu_emp mc hemp)
    have hsub : ∀ p ∈ pre ++ R0, p ∈ Q ++ R0 := by
      rw [eQ]
      tb_rel
    (rename News _ _ _ _ => lN)
    replace lN := cb_drop (news := (T, oT1) :: ([] ++ (ow ++ ((src, srcO cl rd (pl + 1 + 1 + 1) t3d t4d n2d) :: (di, oI2) :: (dn, oN2) :: (Q ++ R0))))) lN (by rw [eQ]; tb_rel)
    have hTQ : ∀ p ∈ Q, p.1 ≠ T := hQ.ne (List.Mem.tail _ (List.Mem.head _))
    with_unfolding_all refine' range_rule2 (n := hp3) (ps₀ := [((Str.ofString "source"), .ref src), ((Str.ofString "shelf"), .ref sh), ((Str.ofString "names"), .ref dn), ((Str.ofString "number"), .int (1 + (i : Int)) t'), ((Str.ofString "head"), .ref hd0)]) (fun k ps nx => ∃ v, HopJ w T (Q ++ R0) kvs i (3 * i) (.ref hd0) (ow ++ ((src, srcO cl rd (pl + 1 + 1 + 1) t3d t4d n2d) :: (di, oI2) :: (dn, oN2) :: (Q ++ R0))) k v nx ∧ [((Str.ofString "source"), .ref src), ((Str.ofString "shelf"), .ref sh), ((Str.ofString "names"), .ref dn), ((Str.ofString "number"), .int (1 + (i : Int)) t'), ((Str.ofString "head"), v)] = ps) (by rfl) ?iR (range_zero hp3 (by omega)).1 (range_zero hp3 (by omega)).2 lF lN (by tb_start) ?ij0 ?iturn ?idone
    case iR => assumption
    case ij0 => exact ⟨.ref hd0, ⟨oT1, [], kvs, rfl, hD, hK, (by omega), Ext.refl, Apart.nil, .here _⟩, rfl⟩
    case idone =>
      clear lF lN
      intro ps nx u2 h2 tk2 hJ F N
      obtain ⟨v, hJ, e2⟩ := hJ
      obtain ⟨oT2, pre2, kvs2, e1, hD2, hK2, hl2, hx2, ha2, hR2⟩ := hJ
      subst e1; subst e2
      dsimp only [kstB, envOfC, envX] at F N
      have hle : kvs2.length ≤ 1000 := by omega
      wrow_steps
      have ek2 : (1 + (i : Int)) = (i : Int) + 1 := by omega
      rw [ek2, stored_absent (hK2.last_none (by omega))] at hD3
      unfold Held
      refine' TurnP.next (ps' := [((Str.ofString "source"), .ref src), ((Str.ofString "shelf"), .ref sh), ((Str.ofString "names"), .ref dn)]) (nx' := (src, srcO cl rd (pl + 1 + 1 + 1) t3d t4d n2d) :: (T, oT3) :: (di, oI2) :: (dn, oN2) :: (K0 ++ (((tp, ot) :: (pre2 ++ Q)) ++ R0))) ?tF ?tN ?tn ?tc ?tk ?tJ
      (case tF => k_asm)
      (case tN => k_asm)
      (case tn => subst eow; tb_rel)
      (case tc => refine offP (X := fun _ => False) ?_; refine Apart.ins (ow := ow) ?_ hown hoffK; exact (Apart.consr (by k_all) (Apart.consr (by k_all) (Apart.consr (by k_all) (Apart.consr (by k_all) (Apart.appr (Apart.consr (fun p hp => Nat.ne_of_lt (hlt3 p (by (first | exact List.mem_cons_of_mem _ (List.mem_append_right _ (List.mem_append_left _ hp)))))) (Apart.appr ((ha2.mono (by tb_rel)).symm) hQo.symm)) (hoff.mono (by tb_rel))))))))
      (case tk => tb_start)
      (case tJ => exact ⟨gs ++ [mc], bs ++ [_], ⟨_, _, _, _, _, oT3, oI2, oN2, (tp, ot) :: (pre2 ++ Q), _, vb ++ [_], rfl, hrd, by omega, hD3, (by rw [List.map_append]; exact hDI2), hDN2, hK2.last (by omega), (by rw [List.length_append, List.length_singleton]; omega), (by rw [List.length_append, List.length_singleton, hgl]), (by rw [List.length_append, List.length_singleton, hbl]), hvb.snoc _ _, (fun m hm => (List.mem_append.mp hm).elim (hm6 m) fun h => by rw [List.mem_singleton.mp h]; omega), Apart.of_lt5 hlt3 (by k_mem) (by k_mem) (by k_mem) (by k_mem) (by tb_rel) (Apart.append (ha2.five (by k_mem) (by k_mem) (by k_mem) (by k_mem) (by tb_rel)) (hQ.five (by k_mem) (by k_mem) (by k_mem) (by k_mem) (by tb_rel))), Apart.cons (fun q hq => Nat.ne_of_lt (hlt3 q (List.mem_cons_of_mem _ (List.mem_append_right _ (List.mem_append_left _ (hKow q hq)))))) (Apart.append (ha2.mono fun q hq => List.mem_cons_of_mem _ (List.mem_append_left _ (hKow q hq))) (hQo.mono hKow)), grp_snoc hG hgl hbl (fun p hp => (List.mem_append.mp (hsub p hp)).elim (fun h => List.mem_append_left _ (List.mem_cons_of_mem _ (List.mem_append_right _ h))) fun h => List.mem_append_right _ h) (hx2.trans Ext.snoc) ⟨_, (hH.sub (by tb_rel)).grp (at_snoc (hK2.last_none (by omega))) (hco.cell (by k_mem)) ((hR2.ext Ext.snoc).sub (by tb_rel)) (by omega)⟩⟩, rfl⟩)
    case iturn =>
      clear lF lN
      intro k t9 ps nx u2 h2 tk2 own2 hkn hJ hoff2 F N
      obtain ⟨v, hJ, e2⟩ := hJ
      obtain ⟨oT2, pre2, kvs2, e1, hD2, hK2, hl2, hx2, ha2, hR2⟩ := hJ
      subst e1; subst e2
      dsimp only [kstB, envOfC, envX] at F N hoff2
      have hle : kvs2.length ≤ 1000 := by omega
      wrow_steps
      have ek : (10 * (0 + (k : Int) + 1) + (1 + (i : Int))) = 10 * ((k : Int) + 1) + ((i : Int) + 1) := by omega
      rw [ek, stored_absent (hK2.hop_none (by omega))] at hD3
      rw [ek] at hrr
      unfold Held
      refine' TurnP.next (ps' := [((Str.ofString "source"), .ref src), ((Str.ofString "shelf"), .ref sh), ((Str.ofString "names"), .ref dn), ((Str.ofString "number"), .int (1 + (i : Int)) t'), ((Str.ofString "head"), rr)]) (nx' := (T, oT3) :: ((prer ++ (tp, ot) :: pre2) ++ (ow ++ ((src, srcO cl rd (pl + 1 + 1 + 1) t3d t4d n2d) :: (di, oI2) :: (dn, oN2) :: (Q ++ R0))))) ?uF ?uN ?un ?uc ?uk ?uJ
      (case uF => k_asm)
      (case uN => k_asm)
      (case un => tb_rel)
      (case uc => refine offP (X := fun _ => False) ?_; exact (Apart.consr (by k_all) (Apart.appr (Apart.appr ((har.mono (by tb_rel)).symm) (Apart.consr (fun p hp => Nat.ne_of_lt (hlt3 p (List.mem_cons_of_mem _ (List.mem_append_left _ hp)))) (hoff2.mono (by tb_rel)))) (hoff2.mono (by tb_rel)))))
      (case uk => tb_start)
      (case uJ => exact ⟨rr, ⟨oT3, prer ++ (tp, ot) :: pre2, _, rfl, hD3, hK2.hop, (by rw [List.length_append, List.length_singleton]; omega), hx2.trans Ext.snoc, Apart.append (har.two (by k_mem) (by tb_rel)) (Apart.of_lt hlt3 (by k_mem) (by tb_rel) (ha2.two (by k_mem) (by tb_rel))), .hop (hrr.sub (by tb_rel)) (at_snoc (hK2.hop_none (by omega))) (hco.cell (by k_mem)) ((hR2.ext Ext.snoc).sub (by tb_rel))⟩, rfl⟩)
  · unfold Held
    (rename Fr _ _ _ _ => lF)
    rename ((menuV mc).isEmpty = _) => hemp
    k_with "call!" => ((with_reducible show wpAny _ _ (call (Value.ref 570) _) _ _ _); k_dflt (refine' Ctr.use ?kC ?k1 ?k2 ?k3 ?k4 ?k5 ?kK ?kd ?ku ?_); (case k4 => k_dflt (exact cb_drop (news := (src, _) :: (T, _) :: (di, _) :: (dn, _) :: (hd0, _) :: (ow ++ (pref ++ (preg ++ (pre ++ R0))))) (by k_asm) (by tb_rel))); (case kC => k_dflt (exact told_menu w _ src cl cells ns nc _ _ _ _ _ (by k_mem) hi hns hns2 (by k_all) (by assumption) (by omega) mc (by omega) hemp)); (case k1 => k_asm); (case k2 => k_asm); (case k3 => k_asm); (case k5 => k_asm); (case kK => first | exact rfl | assumption); (case kd => ktr_room); (case ku => ktr_units); intro ri ni hi tki Fi Ni pi; (obtain ⟨prei, ri2, t3i, t4i, n2i, pi2, e9, hri, hpi, hI, hai⟩ := pi; subst e9); (try dsimp only); (try k_fold))
    k_with "setItem ref str" => (k_dflt (refine' kda_set (knd := PySem.strKind _ _) ?yF ?yN ?yU hDh (strKind_is _ _ _ _) ?yz ?_; (case yF => k_asm); (case yN => exact cb_drop (news := (src, _) :: (T, _) :: (di, _) :: (dn, _) :: (hd0, _) :: (ow ++ (prei ++ (pref ++ (preg ++ (pre ++ R0)))))) (by k_asm) (by tb_rel)); (case yU => k_updF); (case yz => rw [sizeLine_eq]; exact Nat.le_of_ble_eq_true (by with_unfolding_all rfl))); intro h' oh2 F' N' hDh2; (try dsimp only at N'))
    wrow_steps
    unfold Held
    (rename Fr _ _ _ _ => lF)
    refine abs_list ((hd0, oh2) :: (prei ++ (pref ++ (preg ++ pre)))) ?_
    intro Q eQ
    have hQ : Apart Q ((src, srcO cl ri2 pi2 t3i t4i n2i) :: (T, oT1) :: (di, oI2) :: (dn, oN2) :: R0) := by
      rw [eQ]
      exact Apart.cons (by k_all) (Apart.append (hai.five (by k_mem) (by k_mem) (by k_mem) (by k_mem) (by tb_rel)) (Apart.append (haf.five (by k_mem) (by k_mem) (by k_mem) (by k_mem) (by tb_rel)) (Apart.append (hag.five (by k_mem) (by k_mem) (by k_mem) (by k_mem) (by tb_rel)) (hap.five (by k_mem) (by k_mem) (by k_mem) (by k_mem) (by tb_rel)))))
    have hQo : Apart Q ow := by
      rw [eQ]
      exact Apart.cons (fun q hq => z0 q (List.mem_append_left _ hq)) (Apart.append (hai.mono (by tb_rel)) (Apart.append (haf.mono (by tb_rel)) (Apart.append (hag.mono (by tb_rel)) (hoff.mono (by tb_rel)).symm)))
    have hH : HeadAt w (Q ++ R0) (.ref hd0) (byteArr (List.replicate (kd : Int).toNat (65 + (1 + (i : Int))))) (menuW mc) := by
      rw [eQ]
      exact head_intent (by k_mem) hDh2 hd0s (hng.sub (by tb_rel)) (hnf.sub (by tb_rel)) (hI.sub (by tb_rel))
    have hsub : ∀ p ∈ pre ++ R0, p ∈ Q ++ R0 := by
      rw [eQ]
      tb_rel
    (rename News _ _ _ _ => lN)
    replace lN := cb_drop (news := (T, oT1) :: ([] ++ (ow ++ ((src, srcO cl ri2 pi2 t3i t4i n2i) :: (di, oI2) :: (dn, oN2) :: (Q ++ R0))))) lN (by rw [eQ]; tb_rel)
    have hTQ : ∀ p ∈ Q, p.1 ≠ T := hQ.ne (List.Mem.tail _ (List.Mem.head _))
    with_unfolding_all refine' range_rule2 (n := hp3) (ps₀ := [((Str.ofString "source"), .ref src), ((Str.ofString "shelf"), .ref sh), ((Str.ofString "names"), .ref dn), ((Str.ofString "number"), .int (1 + (i : Int)) t'), ((Str.ofString "head"), .ref hd0)]) (fun k ps nx => ∃ v, HopJ w T (Q ++ R0) kvs i (3 * i) (.ref hd0) (ow ++ ((src, srcO cl ri2 pi2 t3i t4i n2i) :: (di, oI2) :: (dn, oN2) :: (Q ++ R0))) k v nx ∧ [((Str.ofString "source"), .ref src), ((Str.ofString "shelf"), .ref sh), ((Str.ofString "names"), .ref dn), ((Str.ofString "number"), .int (1 + (i : Int)) t'), ((Str.ofString "head"), v)] = ps) (by rfl) ?iR (range_zero hp3 (by omega)).1 (range_zero hp3 (by omega)).2 lF lN (by tb_start) ?ij0 ?iturn ?idone
    case iR => assumption
    case ij0 => exact ⟨.ref hd0, ⟨oT1, [], kvs, rfl, hD, hK, (by omega), Ext.refl, Apart.nil, .here _⟩, rfl⟩
    case idone =>
      clear lF lN
      intro ps nx u2 h2 tk2 hJ F N
      obtain ⟨v, hJ, e2⟩ := hJ
      obtain ⟨oT2, pre2, kvs2, e1, hD2, hK2, hl2, hx2, ha2, hR2⟩ := hJ
      subst e1; subst e2
      dsimp only [kstB, envOfC, envX] at F N
      have hle : kvs2.length ≤ 1000 := by omega
      wrow_steps
      have ek2 : (1 + (i : Int)) = (i : Int) + 1 := by omega
      rw [ek2, stored_absent (hK2.last_none (by omega))] at hD3
      unfold Held
      refine' TurnP.next (ps' := [((Str.ofString "source"), .ref src), ((Str.ofString "shelf"), .ref sh), ((Str.ofString "names"), .ref dn)]) (nx' := (src, srcO cl ri2 pi2 t3i t4i n2i) :: (T, oT3) :: (di, oI2) :: (dn, oN2) :: (K0 ++ (((tp, ot) :: (pre2 ++ Q)) ++ R0))) ?tF ?tN ?tn ?tc ?tk ?tJ
      (case tF => k_asm)
      (case tN => k_asm)
      (case tn => subst eow; tb_rel)
      (case tc => refine offP (X := fun _ => False) ?_; refine Apart.ins (ow := ow) ?_ hown hoffK; exact (Apart.consr (by k_all) (Apart.consr (by k_all) (Apart.consr (by k_all) (Apart.consr (by k_all) (Apart.appr (Apart.consr (fun p hp => Nat.ne_of_lt (hlt3 p (by (first | exact List.mem_cons_of_mem _ (List.mem_append_right _ (List.mem_append_left _ hp)))))) (Apart.appr ((ha2.mono (by tb_rel)).symm) hQo.symm)) (hoff.mono (by tb_rel))))))))
      (case tk => tb_start)
      (case tJ => exact ⟨gs ++ [mc], bs ++ [_], ⟨_, _, _, _, _, oT3, oI2, oN2, (tp, ot) :: (pre2 ++ Q), _, vb ++ [_], rfl, hri, by omega, hD3, (by rw [List.map_append]; exact hDI2), hDN2, hK2.last (by omega), (by rw [List.length_append, List.length_singleton]; omega), (by rw [List.length_append, List.length_singleton, hgl]), (by rw [List.length_append, List.length_singleton, hbl]), hvb.snoc _ _, (fun m hm => (List.mem_append.mp hm).elim (hm6 m) fun h => by rw [List.mem_singleton.mp h]; omega), Apart.of_lt5 hlt3 (by k_mem) (by k_mem) (by k_mem) (by k_mem) (by tb_rel) (Apart.append (ha2.five (by k_mem) (by k_mem) (by k_mem) (by k_mem) (by tb_rel)) (hQ.five (by k_mem) (by k_mem) (by k_mem) (by k_mem) (by tb_rel))), Apart.cons (fun q hq => Nat.ne_of_lt (hlt3 q (List.mem_cons_of_mem _ (List.mem_append_right _ (List.mem_append_left _ (hKow q hq)))))) (Apart.append (ha2.mono fun q hq => List.mem_cons_of_mem _ (List.mem_append_left _ (hKow q hq))) (hQo.mono hKow)), grp_snoc hG hgl hbl (fun p hp => (List.mem_append.mp (hsub p hp)).elim (fun h => List.mem_append_left _ (List.mem_cons_of_mem _ (List.mem_append_right _ h))) fun h => List.mem_append_right _ h) (hx2.trans Ext.snoc) ⟨_, (hH.sub (by tb_rel)).grp (at_snoc (hK2.last_none (by omega))) (hco.cell (by k_mem)) ((hR2.ext Ext.snoc).sub (by tb_rel)) (by omega)⟩⟩, rfl⟩)
    case iturn =>
      clear lF lN
      intro k t9 ps nx u2 h2 tk2 own2 hkn hJ hoff2 F N
      obtain ⟨v, hJ, e2⟩ := hJ
      obtain ⟨oT2, pre2, kvs2, e1, hD2, hK2, hl2, hx2, ha2, hR2⟩ := hJ
      subst e1; subst e2
      dsimp only [kstB, envOfC, envX] at F N hoff2
      have hle : kvs2.length ≤ 1000 := by omega
      wrow_steps
      have ek : (10 * (0 + (k : Int) + 1) + (1 + (i : Int))) = 10 * ((k : Int) + 1) + ((i : Int) + 1) := by omega
      rw [ek, stored_absent (hK2.hop_none (by omega))] at hD3
      rw [ek] at hrr
      unfold Held
      refine' TurnP.next (ps' := [((Str.ofString "source"), .ref src), ((Str.ofString "shelf"), .ref sh), ((Str.ofString "names"), .ref dn), ((Str.ofString "number"), .int (1 + (i : Int)) t'), ((Str.ofString "head"), rr)]) (nx' := (T, oT3) :: ((prer ++ (tp, ot) :: pre2) ++ (ow ++ ((src, srcO cl ri2 pi2 t3i t4i n2i) :: (di, oI2) :: (dn, oN2) :: (Q ++ R0))))) ?uF ?uN ?un ?uc ?uk ?uJ
      (case uF => k_asm)
      (case uN => k_asm)
      (case un => tb_rel)
      (case uc => refine offP (X := fun _ => False) ?_; exact (Apart.consr (by k_all) (Apart.appr (Apart.appr ((har.mono (by tb_rel)).symm) (Apart.consr (fun p hp => Nat.ne_of_lt (hlt3 p (List.mem_cons_of_mem _ (List.mem_append_left _ hp)))) (hoff2.mono (by tb_rel)))) (hoff2.mono (by tb_rel)))))
      (case uk => tb_start)
      (case uJ => exact ⟨rr, ⟨oT3, prer ++ (tp, ot) :: pre2, _, rfl, hD3, hK2.hop, (by rw [List.length_append, List.length_singleton]; omega), hx2.trans Ext.snoc, Apart.append (har.two (by k_mem) (by tb_rel)) (Apart.of_lt hlt3 (by k_mem) (by tb_rel) (ha2.two (by k_mem) (by tb_rel))), .hop (hrr.sub (by tb_rel)) (at_snoc (hK2.hop_none (by omega))) (hco.cell (by k_mem)) ((hR2.ext Ext.snoc).sub (by tb_rel))⟩, rfl⟩)
end
section
set_option hygiene false in
local macro_rules | `(tactic| walk_at "compareOp Eq ref ref") => `(tactic| k_extra "compareOp Eq ref ref")
set_option hygiene false in
local macro_rules | `(tactic| walk_at "binaryOp Add ref ref") => `(tactic| k_extra "binaryOp Add ref ref")
set_option hygiene false in
local macro_rules | `(tactic| walk_at "call type:list") => `(tactic| k_extra "call type:list")
set_option hygiene false in
local macro_rules | `(tactic| walk_at "callWith type:list") => `(tactic| k_extra "callWith type:list")
set_option hygiene false in
local macro_rules | `(tactic| walk_at "compareOp Eq ref ref") => `(tactic| first | k_extra "compareOp Eq ref ref" | (refine held ?_))
set_option hygiene false in
local macro_rules | `(tactic| walk_at "eval ListComp") => `(tactic| (k_here; (with_reducible show wpAny _ _ (eval (Expr.ListComp _ [Comprehension.mk _ _ [] _] _ _) _) _ _ _); k_dflt (refine comp_UD (F₀ := by k_asm) (by with_unfolding_all rfl) (by decide) (by rfl) (by decide) (by rfl) ?_)))
local macro_rules | `(tactic| walk_at "execs cons") => `(tactic| (k_here; (with_reducible refine any_toks1 ?_); intro tk'))
local macro_rules | `(tactic| walk_at "execs nil") => `(tactic| (k_here; (with_reducible refine any_toks1 ?_); intro tk'))
-- part Law
theorem CtrS.use {w : World} {f : Addr} {dd : Nat} {sc : Addr} {xs vs : List Value} {news : List (Addr × Obj)} {Post : Value → List (Addr × Obj) → Prop} {q : Program} {loose : List Str} {mean : ExcName → Option Value} {mg mb : Str → Option Value} {dp un : Nat} {gd : Option (List Code)} {cn : Str} {cs : Scope} {a : Addr} {ccd : Value} {cl : List (Str × Addr)} {outer : List Env} {A₀ : Around} {base h₀ : Heap} {L : Addr} {m : Str → Option Value} {s : Shared} {Q E : Value → Shared → Prop}
    (C : CtrS w f dd sc xs vs news Post) (S : h₀.IsList sc xs.toArray) (B : Below A₀ base outer h₀) (F : Fr h₀ L s.heap m) (X : (kx.heap_1 w.params).In h₀) (N : News h₀ L s.heap news) (T : Top q loose mean mg mb h₀) (hk : cs.kind = .function) (hd : dp + dd < recursionLimit) (hu : un + 8 * dd < cLine)
    (ret : ∀ r news' h' tk', Fr h₀ L h' m → News h₀ L h' news' → Post r news' → Q r { s with heap := h', toks := tk' }) :
    wpAny (model PySem.Challenge.rw_qd0128_01.prog w) (ktrTop dp un gd cn cs L a ccd cl outer) (call (.ref f) vs) Q E s :=
  C _ _ _ _ _ _ _ _ _ _ _ _ _ _ _ _ _ _ _ _ _ _ S B F X N T hk hd hu ret
theorem nm_ints {vs : List Value} {ks : List Int} {P : Prop} (_ : IntsAre vs ks) (k : ∀ ks', ks' = ks → P) : P := k ks rfl
theorem grp_all {w : World} {l : List (Addr × Obj)} {kvs : List (Int × Value)} {glv : List Value} {gs : List Nat} {bs : List (Array UInt8)} (hgl : gs.length = glv.length) (hbl : bs.length = glv.length) (hRef : ∀ (i : Nat) v, glv[i]? = some v → RefAt l v ((i : Int) + 1))
    (hGrp : ∀ (j : Nat) m b, gs[j]? = some m → bs[j]? = some b → ∃ hv kvh, GrpAt w l kvs ((j : Int) + 1) hv kvh b (menuW m)) :
    ∀ (i : Nat) v, glv[i]? = some v → ∃ hv kvh nm, RefAt l v ((i : Int) + 1) ∧ GrpAt w l kvs ((i : Int) + 1) hv kvh nm (menuW (gs.getD i 0)) := by
  intro i v e
  have hi : i < glv.length := by
    rcases Nat.lt_or_ge i glv.length with q | q
    · exact q
    · rw [List.getElem?_eq_none q] at e; cases e
  have h1 : gs[i]? = some (gs.getD i 0) := by rw [List.getD_eq_getElem?_getD, List.getElem?_eq_getElem (by omega)]; rfl
  have h2 : bs[i]? = some (bs[i]'(by omega)) := List.getElem?_eq_getElem (by omega)
  obtain ⟨hv, kvh, g⟩ := hGrp i _ _ h1 h2
  exact ⟨hv, kvh, _, hRef i v e, g⟩
theorem counted_ok (w : World) (news : List (Addr × Obj)) (sh : Addr) (kvs : List (Int × Value)) (gl : Addr) (glv : List Value) (gn : Nat) (fv cv : Value) (kvf : List (Str × Value)) (cw : List Str) (g : Nat → List Str) (hT : TopAt w news sh kvs gl glv gn fv kvf) (hlen : glv.length ≤ 4) (hg : ∀ (i : Nat) v, glv[i]? = some v → ∃ hv kvh nm, RefAt news v ((i : Int) + 1) ∧ GrpAt w news kvs ((i : Int) + 1) hv kvh nm (g i)) (hcf : ConfAt news cv cw) : Ctr w 499 9 [.ref sh, cv] news (fun r' n' => ∃ l xs n3, Value.ref l = r' ∧ (l, listOf xs.toArray n3) :: news = n' ∧ IntsAre xs (counted cw g glv.length)) := by
  cases h : (cw.any (· == Str.ofString "All")) with
  | true =>
    refine (counted_all w news sh kvs gl glv gn fv cv kvf cw g hT hlen hg hcf h).mono fun r n ⟨l, xs, n3, e1, e2, e3⟩ => ⟨l, xs, n3, e1, e2, ?_⟩
    unfold counted
    rw [if_pos h]
    exact e3
  | false =>
    refine (counted_some w news sh kvs gl glv gn fv cv kvf cw g hT hlen hg hcf h).mono fun r n ⟨l, xs, n3, e1, e2, e3⟩ => ⟨l, xs, n3, e1, e2, ?_⟩
    unfold counted
    rw [if_neg (by rw [h]; exact Bool.false_ne_true)]
    exact e3
theorem nm_led {h₀ h : Heap} {L : Addr} {l : List (Addr × Obj)} {P : Prop} (_ : News h₀ L h l) (k : ∀ l', l' = l → P) : P := k l rfl
theorem get_of_bytes {gs : List Nat} {bs : List (Array UInt8)} {i : Nat} {b : Array UInt8} (hl : gs.length = bs.length) (h : bs[i]? = some b) : gs[i]? = some (gs.getD i 0) := by
  have hi : i < gs.length := by
    rcases Nat.lt_or_ge i bs.length with q | q
    · omega
    · rw [List.getElem?_eq_none q] at h; cases h
  rw [List.getD_eq_getElem?_getD, List.getElem?_eq_getElem hi]; rfl
theorem nm_all2 {l : List (Addr × Obj)} {vs : List Value} {ds : List Dat} {P : Prop} (_ : All2 (TOp l) vs ds) (k : ∀ l', l' = l → P) : P := k l rfl
theorem outK_ok (o : RK) (k : Int) : (outK o k).all (dok 3) = true := by
  unfold outK
  split
  · cases o <;> rfl
  · cases o <;> rfl
theorem out_ok (ops : List RK) : (runOf ops).out.all (dok 3) = true := by
  have h : ∀ (ops : List RK) (r : RS), r.out.all (dok 3) = true → (ops.foldl RS.next r).out.all (dok 3) = true := by
    intro ops
    induction ops with
    | nil => intro r h; exact h
    | cons o ops ih =>
      intro r h
      refine ih _ ?_
      show (r.out ++ outK o _).all (dok 3) = true
      rw [List.all_append, h, outK_ok]
      rfl
  exact h ops _ rfl
theorem told_ok (ops : List RK) : (openDat :: (runOf ops).out ++ [closeDat]).all (dok 3) = true := by
  rw [List.all_append, List.all_cons, out_ok]
  rfl
theorem nm_list {h : Heap} {a : Addr} {vs : List Value} {P : Prop} (_ : h.IsList a vs.toArray) (k : ∀ (a' : Addr) (vs' : List Value), a' = a → vs' = vs → P) : P := k a vs rfl rfl
theorem fin.tw13780315990189596048 : True := trivial
theorem fin.tw15583698165555649274 : True := trivial
theorem fin.tw15459455144867644326 : True := trivial
theorem fin.tw4588413851689716618 : True := trivial
theorem fin.tw4985728507212818316 : True := trivial
theorem fin.tw16958243865122950064 : True := trivial
theorem fin.tw6400248389586479577 : True := trivial
theorem fin.tw11277574374343807151 : True := trivial
theorem fin.tw6214469639950668122 : True := trivial
theorem fin.tw7803649310394182010 : True := trivial
theorem fin.tw17719728818120068181 : True := trivial
theorem fin.tw6058378993454661626 : True := trivial
theorem fin.tw1545086475593560577 : True := trivial
theorem fin.tw16496857829328116044 : True := trivial
theorem fin.tw12696600883282566439 : True := trivial
theorem fin.tw6289197191216398940 : True := trivial
theorem fin.tw1544503264643628384 : True := trivial
theorem fin.tw8126443298418566877 : True := trivial
theorem fin.tw17685202221306038883 : True := trivial
theorem fin.tw10599938827571368224 : True := trivial
theorem fin.tw5805905742469029177 : True := trivial
theorem fin.tw17204297501091165112 : True := trivial
theorem fin.tw14838103818555229697 : True := trivial
theorem fin.tw12649782002744950493 : True := trivial
theorem fin.tw16275787546110486726 : True := trivial
theorem fin.tw11936995450923721628 : True := trivial
theorem fin.tw3906754673857718949 : True := trivial
theorem fin.tw14279960228734115912 : True := trivial
theorem fin.tw6667815254911646788 : True := trivial
theorem fin.tw17197158672614542318 : True := trivial
theorem fin.tw4040260094072895976 : True := trivial
theorem fin.tw14239432107786713131 : True := trivial
theorem fin.tw12171577908484138354 : True := trivial
theorem fin.tw3788772014149755174 : True := trivial
theorem fin.tw3314143786362844604 : True := trivial
theorem fin.tw13870153662132920491 : True := trivial
theorem fin.tw9825154096284803294 : True := trivial
theorem fin.tw12237877928780879103 : True := trivial
theorem fin.tw5115476493328737885 : True := trivial
theorem fin.tw8559517257967667466 : True := trivial
theorem fin.tw13925877587632400325 : True := trivial
theorem fin.tw12868640280835112553 : True := trivial
theorem fin.tw4312942655851389009 : True := trivial
theorem fin.tw15399907426655090358 : True := trivial
theorem fin.tw7021976415091001641 : True := trivial
theorem fin.tw3599858809825778643 : True := trivial
theorem fin.tw2537931557510868981 : True := trivial
theorem fin.tw9544026089342320630 : True := trivial
theorem fin.tw7000300075881102575 : True := trivial
theorem fin.tw4162185377826839926 : True := trivial
theorem fin.tw7613945582906998725 : True := trivial
theorem fin.tw6474043946942992101 : True := trivial
theorem fin.tw3863403702602939814 : True := trivial
theorem fin.tw7336344344812659824 : True := trivial
theorem fin.tw10998343915150870288 : True := trivial
theorem fin.tw1012361349325877821 : True := trivial
theorem fin.tw4878226113927451544 : True := trivial
theorem fin.tw14814673180317915700 : True := trivial
theorem fin.tw17743408960866722510 : True := trivial
theorem fin.tw8330952907988395303 : True := trivial
theorem fin.tw7278507554335971580 : True := trivial
theorem fin.tw9297318355482256503 : True := trivial
theorem fin.tw3885313090954376144 : True := trivial
theorem fin.tw1035503724928835527 : True := trivial
theorem fin.tw4170516301191304579 : True := trivial
theorem fin.tw4879674094562380441 : True := trivial
theorem fin.tw10511823565363050587 : True := trivial
theorem fin.tw13272504610945704091 : True := trivial
theorem fin.tw18105285910621931680 : True := trivial
theorem fin.tw14856888987745899463 : True := trivial
theorem fin.tw6455845175183424153 : True := trivial
theorem fin.tw12141802397888321627 : True := trivial
theorem fin.tw8119881530291889089 : True := trivial
theorem fin.tw16540275574145912595 : True := trivial
theorem fin.tw9158639710788327270 : True := trivial
theorem fin.tw799341379326975648 : True := trivial
theorem fin.tw8643116662766533202 : True := trivial
theorem fin.tw15201286185872193147 : True := trivial
theorem fin.tw10708223146118651492 : True := trivial
theorem fin.tw6498334528663615478 : True := trivial
theorem fin.tw10874316729293906858 : True := trivial
theorem fin.tw15216479089859931547 : True := trivial
theorem fin.tw2316539691658765527 : True := trivial
theorem fin.tw3211687289105081006 : True := trivial
theorem fin.tw12780881840741157306 : True := trivial
theorem fin.tw8947099994592609211 : True := trivial
theorem fin.tw5634151482396758240 : True := trivial
theorem fin.tw7929640520542984453 : True := trivial
theorem fin.tw16488607150827929282 : True := trivial
theorem fin.tw13516622038369049944 : True := trivial
theorem fin.tw13383306551100868464 : True := trivial
theorem fin.tw16708981103961760564 : True := trivial
theorem fin.tw9825859731914700964 : True := trivial
theorem fin.tw3506512066687448480 : True := trivial
theorem fin.tw14568449535678555946 : True := trivial
theorem fin.tw18164189302063226315 : True := trivial
theorem fin.tw12464766053444552404 : True := trivial
theorem fin.tw4265850918314828415 : True := trivial
theorem fin.tw4013537778516871869 : True := trivial
theorem fin.tw11336253725339858928 : True := trivial
theorem fin.tw9363291351745731410 : True := trivial
theorem fin.tw3812028171767442716 : True := trivial
theorem fin.tw5320702786494000081 : True := trivial
theorem fin.tw7830629276484211593 : True := trivial
theorem fin.tw7845872953664198349 : True := trivial
theorem fin.tw17701328389417463424 : True := trivial
theorem fin.tw14497727239971306367 : True := trivial
theorem fin.tw8472697214298850164 : True := trivial
theorem fin.tw2320886540369039338 : True := trivial
theorem fin.tw6068950659093879613 : True := trivial
theorem fin.tw13815853411582834384 : True := trivial
theorem fin.tw6566618420281934 : True := trivial
theorem fin.tw10070804522480449196 : True := trivial
theorem fin.tw2656788454239962097 : True := trivial
theorem fin.tw17109930996152030393 : True := trivial
theorem fin.tw16401934584784274106 : True := trivial
theorem fin.tw15621619335703214680 : True := trivial
theorem fin.tw12876064707754696378 : True := trivial
theorem fin.tw14541005305830221311 : True := trivial
theorem fin.tw7177338460636591580 : True := trivial
theorem fin.tw4924110625330727750 : True := trivial
theorem fin.tw824797018042769846 : True := trivial
theorem fin.tw6081921254191324426 : True := trivial
theorem fin.tw18255404467826089762 : True := trivial
theorem fin.tw3105451386036433885 : True := trivial
theorem fin.tw9260378047223084069 : True := trivial
theorem fin.tw2692977207878642823 : True := trivial
theorem fin.tw16237762584071213788 : True := trivial
theorem fin.tw1390109508276135513 : True := trivial
theorem fin.tw9746214513668125432 : True := trivial
theorem fin.tw4684940682943077961 : True := trivial
theorem fin.tw12118000046449163591 : True := trivial
theorem fin.tw15523922138108190246 : True := trivial
theorem fin.tw9839346839192117915 : True := trivial
theorem fin.tw14793013804824869981 : True := trivial
theorem fin.tw1625080806587739848 : True := trivial
theorem fin.tw3762306804915933987 : True := trivial
theorem fin.tw3857263333814641470 : True := trivial
theorem fin.tw7675655780812522254 : True := trivial
theorem fin.tw18404063521330658252 : True := trivial
theorem fin.tw5792265106169080782 : True := trivial
theorem fin.tw7055459427971326715 : True := trivial
theorem fin.tw9285502775097883379 : True := trivial
theorem fin.tw4754365596532378047 : True := trivial
theorem fin.tw8399098705505230059 : True := trivial
theorem fin.tw8088732932480780420 : True := trivial
theorem fin.tw16934629359412608497 : True := trivial
theorem fin.tw12612204703400128841 : True := trivial
theorem fin.tw1088692219920020602 : True := trivial
theorem fin.tw10393886385942881009 : True := trivial
theorem fin.tw8919302590299486024 : True := trivial
theorem fin.tw17656766251404061198 : True := trivial
theorem fin.tw16903924287465469464 : True := trivial
theorem fin.tw17425937995043322649 : True := trivial
theorem fin.tw5647864574477489665 : True := trivial
theorem fin.tw8289400949097046189 : True := trivial
theorem fin.tw7380833856163905736 : True := trivial
theorem fin.tw16503470079419688546 : True := trivial
theorem fin.tw6956187926921108005 : True := trivial
theorem fin.tw9913140749668108558 : True := trivial
theorem fin.tw8272817396058243321 : True := trivial
theorem fin.tw3459265974087741279 : True := trivial
theorem fin.tw11454252539852477091 : True := trivial
theorem fin.tw11061592194353771069 : True := trivial
theorem fin.tw2377308710366028375 : True := trivial
theorem fin.tw8352470293576582857 : True := trivial
theorem fin.tw5011121235533021005 : True := trivial
theorem fin.tw10852849658779182186 : True := trivial
theorem fin.tw15094949803261831281 : True := trivial
theorem fin.tw6878024787957991413 : True := trivial
theorem fin.tw7773504467932542270 : True := trivial
theorem fin.tw2304379251839397102 : True := trivial
theorem fin.tw12740692763255036000 : True := trivial
theorem fin.tw12711679700452659978 : True := trivial
theorem fin.tw12869217540446652890 : True := trivial
theorem fin.tw16584127079891442865 : True := trivial
theorem fin.tw452785534982262242 : True := trivial
theorem fin.tw1080700006314346644 : True := trivial
theorem fin.tw13814004702073501669 : True := trivial
theorem fin.tw14254621764821748828 : True := trivial
theorem fin.tw1560641971993327685 : True := trivial
theorem fin.tw544173102793226557 : True := trivial
theorem fin.tw10234915967203826555 : True := trivial
theorem fin.tw7028063314416541132 : True := trivial
theorem fin.tw12809788781938459499 : True := trivial
theorem fin.tw11112386831996348380 : True := trivial
theorem fin.tw12567809125941998234 : True := trivial
theorem fin.tw9113340658982188547 : True := trivial
theorem fin.tw4723787954990577340 : True := trivial
theorem fin.tw423345284130997744 : True := trivial
theorem fin.tw11079828417688620724 : True := trivial
theorem fin.tw13929302177132474383 : True := trivial
theorem fin.tw17347454772498655404 : True := trivial
theorem fin.tw1713156846745171867 : True := trivial
theorem fin.tw8763427294919582920 : True := trivial
theorem fin.tw14449560505687523246 : True := trivial
theorem fin.tw8004206274103572539 : True := trivial
theorem fin.tw9746901515087519452 : True := trivial
theorem fin.tw11414119711712004833 : True := trivial
theorem fin.tw17130245016438642246 : True := trivial
theorem fin.tw12962497063298326498 : True := trivial
theorem fin.tw15205425988870721313 : True := trivial
theorem fin.tw10696652717036330658 : True := trivial
theorem fin.tw9722632081671974098 : True := trivial
theorem fin.tw9659392335347125073 : True := trivial
theorem fin.tw1613116972386908190 : True := trivial
theorem fin.tw3810338749695602999 : True := trivial
theorem fin.tw17123178472405020103 : True := trivial
theorem fin.tw6385529401280152062 : True := trivial
theorem fin.tw13484989928664886584 : True := trivial
theorem fin.tw8416529770105884409 : True := trivial
theorem fin.tw15590172107835277464 : True := trivial
theorem fin.tw10391319463526535247 : True := trivial
theorem fin.tw17896612028031085017 : True := trivial
theorem fin.tw1921391257341544841 : True := trivial
theorem fin.tw10807920368746810246 : True := trivial
theorem fin.tw5776136370200156792 : True := trivial
theorem fin.tw7451905468542833597 : True := trivial
theorem fin.tw2103456241558337223 : True := trivial
theorem fin.tw16448676403291746579 : True := trivial
theorem fin.tw14560573928864763818 : True := trivial
theorem fin.tw3125960719983571848 : True := trivial
theorem fin.tw2711489104339610207 : True := trivial
theorem fin.tw18373065035072037172 : True := trivial
theorem fin.tw4424551920762525699 : True := trivial
theorem fin.tw6718411051458867188 : True := trivial
theorem fin.tw17041991840579044601 : True := trivial
theorem fin.tw14075178694198228753 : True := trivial
theorem fin.tw6973266500810094378 : True := trivial
theorem fin.tw5901363791540438844 : True := trivial
theorem fin.tw12347537446847802165 : True := trivial
theorem fin.tw3004984022683251337 : True := trivial
theorem fin.tw11273041486466551846 : True := trivial
theorem fin.tw452842511749404161 : True := trivial
theorem fin.tw1951045429614898598 : True := trivial
theorem fin.tw7890596953891613788 : True := trivial
theorem fin.tw8288733244629462318 : True := trivial
theorem fin.tw3112429581023547943 : True := trivial
theorem fin.tw18195182924450695511 : True := trivial
theorem fin.tw1105837973531982728 : True := trivial
theorem fin.tw6815667921103612162 : True := trivial
theorem fin.tw5073790198343104882 : True := trivial
theorem fin.tw333583748066197110 : True := trivial
theorem fin.tw6531376189190222733 : True := trivial
theorem fin.tw744865244796547220 : True := trivial
theorem fin.tw14018533915963200917 : True := trivial
theorem fin.tw8408514402456403777 : True := trivial
theorem fin.tw7822013112032934038 : True := trivial
theorem fin.tw1666694428299288667 : True := trivial
theorem fin.tw2462912638960843985 : True := trivial
theorem fin.tw9712136527352899355 : True := trivial
theorem fin.tw11227884535216515135 : True := trivial
theorem fin.tw16889484823980962733 : True := trivial
theorem fin.tw3912488439876925007 : True := trivial
theorem fin.tw14431720936831517352 : True := trivial
theorem fin.tw3199103547748192838 : True := trivial
theorem fin.tw10329872625359487480 : True := trivial
theorem fin.tw14787430101999643098 : True := trivial
theorem fin.tw7995362448368537469 : True := trivial
theorem fin.tw15373703851562958014 : True := trivial
theorem fin.tw14139026862911339306 : True := trivial
theorem fin.tw12180539936304867106 : True := trivial
theorem fin.tw15309079848183770524 : True := trivial
theorem fin.tw17220895691602665673 : True := trivial
theorem fin.tw6855842070160138184 : True := trivial
theorem fin.tw16798467561266328274 : True := trivial
theorem fin.tw1819255440876223710 : True := trivial
theorem fin.tw16510490156224867327 : True := trivial
theorem fin.tw4806268862455609328 : True := trivial
theorem fin.tw11466478281803324712 : True := trivial
theorem fin.tw15083174532876359662 : True := trivial
theorem fin.tw1014637456484912126 : True := trivial
theorem fin.tw3268265519342814607 : True := trivial
theorem fin.tw1963134401048803436 : True := trivial
theorem fin.tw6525817661751114472 : True := trivial
theorem fin.tw7070210977369740762 : True := trivial
theorem fin.tw4928979718650693569 : True := trivial
theorem fin.tw17601723335914317199 : True := trivial
theorem fin.tw7844069586390513008 : True := trivial
theorem fin.tw16115155874713506467 : True := trivial
theorem fin.tw12876116671307685997 : True := trivial
theorem fin.tw3263211703599914710 : True := trivial
theorem fin.tw11906472874536768445 : True := trivial
theorem fin.tw5555312102172926907 : True := trivial
theorem fin.tw670465573061467203 : True := trivial
theorem fin.tw6341822008880759003 : True := trivial
theorem fin.tw8261031787919469916 : True := trivial
theorem fin.tw2671655128345628175 : True := trivial
theorem fin.tw14347400895652799225 : True := trivial
theorem fin.tw14517287926952318261 : True := trivial
theorem fin.tw17430205856086898164 : True := trivial
theorem fin.tw8649246358833038949 : True := trivial
theorem fin.tw10829458402184033698 : True := trivial
theorem fin.tw4950403968356008110 : True := trivial
theorem fin.tw7468727024169554154 : True := trivial
theorem fin.tw3550807849831375056 : True := trivial
theorem fin.tw15344004072050561172 : True := trivial
theorem fin.tw7930893340574950883 : True := trivial
theorem fin.tw13326868189938593150 : True := trivial
theorem fin.tw6388184931127306564 : True := trivial
theorem fin.tw15476544859757588837 : True := trivial
theorem fin.tw1422313219903470601 : True := trivial
theorem fin.tw12239064139714945176 : True := trivial
theorem fin.tw4232310507111121658 : True := trivial
theorem fin.tw8896352889252549814 : True := trivial
theorem fin.tw16205109500356779066 : True := trivial
theorem fin.tw12586190556516072552 : True := trivial
theorem fin.tw14210890002308233579 : True := trivial
theorem fin.tw12829507556594621215 : True := trivial
theorem fin.tw500868675978126160 : True := trivial
theorem fin.tw17067295170570645592 : True := trivial
theorem fin.tw4395496475954998127 : True := trivial
theorem fin.tw4719063310657182621 : True := trivial
theorem fin.tw17149882997012438147 : True := trivial
theorem fin.tw4209717502836232480 : True := trivial
theorem fin.tw11154830654865731599 : True := trivial
theorem fin.tw16269368082590959529 : True := trivial
theorem fin.tw9610726530385051774 : True := trivial
theorem fin.tw1635022588487117616 : True := trivial
theorem fin.tw14111491100615862519 : True := trivial
theorem fin.tw6814920720970662088 : True := trivial
theorem fin.tw1209720653154232198 : True := trivial
theorem fin.tw8614737586434602478 : True := trivial
theorem fin.tw1397303283331804279 : True := trivial
theorem fin.tw9524518906428321964 : True := trivial
theorem fin.tw18085205558954209793 : True := trivial
theorem fin.tw6358069152663178829 : True := trivial
theorem fin.tw5402249366112354979 : True := trivial
theorem fin.tw8668149382578428375 : True := trivial
theorem fin.tw17662344363894024548 : True := trivial
theorem fin.tw1344375218359569892 : True := trivial
theorem fin.tw2608567993692976607 : True := trivial
theorem fin.tw11192643925408225281 : True := trivial
theorem fin.tw3028926083550364057 : True := trivial
theorem fin.tw12996517811204074000 : True := trivial
theorem fin.tw757079261281740938 : True := trivial
theorem fin.tw3222278782482380304 : True := trivial
theorem fin.tw16196181902256332553 : True := trivial
theorem fin.tw17933470926392208243 : True := trivial
theorem fin.tw13337293482115323266 : True := trivial
theorem fin.tw6461409362072667662 : True := trivial
theorem fin.tw1969125764957023869 : True := trivial
theorem fin.tw13846785618639409469 : True := trivial
theorem fin.tw7130589087949165531 : True := trivial
theorem fin.tw3837020019201816242 : True := trivial
theorem fin.tw4640724917100965312 : True := trivial
theorem fin.tw7348594602126897846 : True := trivial
theorem fin.tw8383268338085895543 : True := trivial
theorem fin.tw4598667867955821814 : True := trivial
theorem fin.tw10925335251469727208 : True := trivial
theorem fin.tw2305881189932309285 : True := trivial
theorem fin.tw10242451874928486539 : True := trivial
theorem fin.tw10671828304227620169 : True := trivial
theorem fin.tw17260493314774615805 : True := trivial
theorem fin.tw12072802829135307789 : True := trivial
theorem fin.tw4443050520305737185 : True := trivial
theorem fin.tw807531904560671035 : True := trivial
theorem fin.tw11414674201277728305 : True := trivial
theorem fin.tw251868834278440796 : True := trivial
theorem fin.tw17512474026176034454 : True := trivial
theorem fin.tw3998398428148030388 : True := trivial
theorem fin.tw12212933522069011988 : True := trivial
theorem fin.tw12946824338688289833 : True := trivial
theorem fin.tw17869975865946814897 : True := trivial
theorem fin.tw17637551073024348614 : True := trivial
theorem fin.tw9997704412844104603 : True := trivial
theorem fin.tw876206183137641144 : True := trivial
theorem fin.tw17108682257543074861 : True := trivial
theorem fin.tw15234240111613058569 : True := trivial
theorem fin.tw6454446336052903152 : True := trivial
theorem fin.tw15832999045522443761 : True := trivial
theorem fin.tw18230178534529381785 : True := trivial
theorem fin.tw8331973007464152698 : True := trivial
theorem fin.tw17971676594858020690 : True := trivial
theorem fin.tw2775396313129547428 : True := trivial
theorem fin.tw17495881415371897999 : True := trivial
theorem fin.tw15942684835789789487 : True := trivial
theorem fin.tw10098057777631523497 : True := trivial
theorem fin.tw6577878126316647860 : True := trivial
theorem fin.tw12847644182280273618 : True := trivial
theorem fin.tw8025084765662995669 : True := trivial
theorem fin.tw14679806638718605512 : True := trivial
theorem fin.tw10279692637995926009 : True := trivial
theorem fin.tw9387745189664136937 : True := trivial
theorem fin.tw15564276425815640635 : True := trivial
theorem fin.tw11575174756993882273 : True := trivial
theorem fin.tw4144819383078699286 : True := trivial
theorem fin.tw1887099378405440850 : True := trivial
theorem fin.tw3767311804947220896 : True := trivial
theorem fin.tw14142754788403991900 : True := trivial
theorem fin.tw4329306826757983850 : True := trivial
theorem fin.tw3794220679723124481 : True := trivial
theorem fin.tw5734618986648460908 : True := trivial
theorem fin.tw15434440284735832900 : True := trivial
theorem fin.tw895571856199123645 : True := trivial
theorem fin.tw9509447333196811905 : True := trivial
theorem fin.tw17132207802985990308 : True := trivial
theorem fin.tw111200028466390044 : True := trivial
theorem fin.tw16530489862217454893 : True := trivial
theorem fin.tw1202912048536075021 : True := trivial
theorem fin.tw2885147992704089249 : True := trivial
theorem fin.tw6435670951450185984 : True := trivial
theorem fin.tw5897612983314593646 : True := trivial
theorem fin.tw7470013935711676318 : True := trivial
theorem fin.tw3029852977388229646 : True := trivial
theorem fin.tw373065315874586923 : True := trivial
theorem fin.tw6381419901266130222 : True := trivial
theorem fin.tw1252854909445205041 : True := trivial
theorem fin.tw10895054467252067526 : True := trivial
theorem fin.tw13021059552284102479 : True := trivial
theorem fin.tw5071919506433949198 : True := trivial
theorem fin.tw3683778510129048087 : True := trivial
theorem fin.tw1535588207084551279 : True := trivial
theorem fin.tw17570709534508481193 : True := trivial
theorem fin.tw9218923581257491847 : True := trivial
theorem fin.tw12494888245299231016 : True := trivial
theorem fin.tw13093503161671486093 : True := trivial
theorem fin.tw11607805686811502034 : True := trivial
theorem fin.tw6968583824967984638 : True := trivial
theorem fin.tw862447977868951606 : True := trivial
theorem fin.tw999798209818781672 : True := trivial
theorem fin.tw3456623496861543869 : True := trivial
theorem fin.tw17885000287785639577 : True := trivial
theorem fin.tw17963964198891936676 : True := trivial
theorem fin.tw8282952209683644444 : True := trivial
theorem fin.tw15566928917628492161 : True := trivial
theorem fin.tw891787732878383699 : True := trivial
theorem fin.tw12291753297600562012 : True := trivial
theorem fin.tw4768634762848416435 : True := trivial
theorem fin.tw15741700470354863883 : True := trivial
theorem fin.tw2090205506522743130 : True := trivial
theorem fin.tw2910385600587045654 : True := trivial
theorem fin.tw16407147864228438881 : True := trivial
theorem fin.tw13790858721211988464 : True := trivial
theorem fin.tw5679570950571409650 : True := trivial
theorem fin.tw17362494058136835672 : True := trivial
theorem fin.tw4613182775407389354 : True := trivial
theorem fin.tw884059145510264010 : True := trivial
theorem fin.tw15989303212955285315 : True := trivial
theorem fin.tw1982079694162106894 : True := trivial
theorem fin.tw8462624477310905004 : True := trivial
theorem fin.tw17449020081951674710 : True := trivial
theorem fin.tw12356021495744459628 : True := trivial
theorem fin.tw12135189313929291683 : True := trivial
theorem fin.tw13574545013463194659 : True := trivial
theorem fin.tw10891054232620793217 : True := trivial
theorem fin.tw803859442106103436 : True := trivial
theorem fin.tw3373110491918621954 : True := trivial
theorem fin.tw4218790737952374519 : True := trivial
theorem fin.tw5678346346211369953 : True := trivial
theorem fin.tw13177410634674063896 : True := trivial
theorem fin.tw6380807493870290408 : True := trivial
theorem fin.tw7786677914034681988 : True := trivial
theorem fin.tw16103849850496634939 : True := trivial
theorem fin.tw8569027658895312972 : True := trivial
theorem fin.tw10580198807604790814 : True := trivial
theorem fin.tw2896703901015224195 : True := trivial
theorem fin.tw888132650186811988 : True := trivial
theorem fin.tw9735714214384596553 : True := trivial
theorem fin.tw4171678462856256454 : True := trivial
theorem fin.tw13700621096757390547 : True := trivial
theorem fin.tw2866121171748074186 : True := trivial
theorem fin.tw16906536467411238026 : True := trivial
theorem fin.tw9445451236469955387 : True := trivial
theorem fin.tw12557769604369416430 : True := trivial
theorem fin.tw17784850919643140607 : True := trivial
theorem fin.tw10907391636593693970 : True := trivial
theorem fin.tw12448240930570709186 : True := trivial
theorem fin.tw2086631506510373192 : True := trivial
theorem fin.tw16570786720924097770 : True := trivial
theorem fin.tw10007411396671696613 : True := trivial
theorem fin.tw2367325634123391141 : True := trivial
theorem fin.tw3975253019698251321 : True := trivial
theorem fin.tw8999559765510592377 : True := trivial
theorem fin.tw783483362715066742 : True := trivial
theorem fin.tw5098551885099359569 : True := trivial
theorem fin.tw16867096813858660809 : True := trivial
theorem fin.tw16285329926789087883 : True := trivial
theorem fin.tw12221555665107904926 : True := trivial
theorem fin.tw8656503046869711584 : True := trivial
theorem fin.tw15069271281064182630 : True := trivial
theorem fin.tw4769821431679368130 : True := trivial
theorem fin.tw7779959011674639804 : True := trivial
theorem fin.tw2617349483901765261 : True := trivial
theorem fin.tw9762844127004188917 : True := trivial
theorem fin.tw5106123347721008290 : True := trivial
theorem fin.tw11293339424137598113 : True := trivial
theorem fin.tw5196160543931855155 : True := trivial
theorem fin.tw2067723777617599883 : True := trivial
theorem fin.tw4898026214463823928 : True := trivial
theorem fin.tw8577089030196625639 : True := trivial
theorem fin.tw12629903358213643309 : True := trivial
theorem fin.tw16252508478716706905 : True := trivial
theorem fin.tw2512408688544751470 : True := trivial
theorem fin.tw3008263204520378139 : True := trivial
theorem fin.tw3432132637015033673 : True := trivial
theorem fin.tw7830602891274557492 : True := trivial
theorem fin.tw10936777179133785780 : True := trivial
theorem fin.tw13162651487661262736 : True := trivial
theorem fin.tw4326780796455107134 : True := trivial
theorem fin.tw7249652514872940865 : True := trivial
theorem fin.tw8590288500278120515 : True := trivial
theorem fin.tw4868334931027891882 : True := trivial
theorem fin.tw6766580051018981234 : True := trivial
theorem fin.tw5102460946473063141 : True := trivial
theorem fin.tw11040825799340251285 : True := trivial
theorem fin.tw11039862389202566683 : True := trivial
theorem fin.tw14658254696389335927 : True := trivial
theorem fin.tw9221430085559818832 : True := trivial
theorem fin.tw2051409578822353534 : True := trivial
theorem fin.tw1249118550022496774 : True := trivial
theorem fin.tw14166196953294261902 : True := trivial
theorem fin.tw6712194924023145494 : True := trivial
theorem fin.tw1903126291601959907 : True := trivial
theorem fin.tw7439575562449295702 : True := trivial
theorem fin.tw18295790063311454060 : True := trivial
theorem fin.tw11953781441336167498 : True := trivial
theorem fin.tw2565351972500760935 : True := trivial
theorem fin.tw17416127249078093707 : True := trivial
theorem fin.tw5486226609284752418 : True := trivial
theorem fin.tw8018989035897545986 : True := trivial
theorem fin.tw9806666330580929782 : True := trivial
theorem fin.tw1128348596072947701 : True := trivial
theorem fin.tw15225332579556243176 : True := trivial
theorem fin.tw11615019562542576733 : True := trivial
theorem fin.tw480829909506669009 : True := trivial
theorem fin.tw7613857476909055813 : True := trivial
theorem fin.tw5227809002895711924 : True := trivial
theorem fin.tw10875463905939285979 : True := trivial
theorem fin.tw7976502392129159676 : True := trivial
theorem fin.tw9962418760945406050 : True := trivial
theorem fin.tw16231027417747320569 : True := trivial
theorem fin.tw6515953530934532768 : True := trivial
theorem fin.tw18181578782009888040 : True := trivial
theorem fin.tw6127190174262240918 : True := trivial
theorem fin.tw18387650150990424433 : True := trivial
theorem fin.tw14786503066443513839 : True := trivial
theorem fin.tw612862322836996645 : True := trivial
theorem fin.tw11587955951900863698 : True := trivial
theorem fin.tw5266742908149448401 : True := trivial
theorem fin.tw17164383140453370395 : True := trivial
theorem fin.tw14245171486683049214 : True := trivial
theorem fin.tw18087328562809068087 : True := trivial
theorem fin.tw10751089155417173751 : True := trivial
theorem fin.tw7716820226725407877 : True := trivial
theorem fin.tw8776770756819070316 : True := trivial
theorem fin.tw15144710454662140524 : True := trivial
theorem fin.tw3974152918291533672 : True := trivial
theorem fin.tw13898374239775968522 : True := trivial
theorem fin.tw2976117146107443816 : True := trivial
theorem fin.tw15815952407149668801 : True := trivial
theorem fin.tw14728723275428758510 : True := trivial
theorem fin.tw14578271805448956485 : True := trivial
theorem fin.tw17628183408451194143 : True := trivial
theorem fin.tw1450881378762983150 : True := trivial
theorem fin.tw17717364068325071970 : True := trivial
theorem fin.tw10699407837109476802 : True := trivial
set_option Elab.async true
theorem fin : PySem.Challenge.rw_qd0128_01.Holds := by
  (w_on; o_law; o_head (kHook kx.heap_1 [2, 3, 15, 17, 18, 20, 21, 22, 29, 30, 32, 33, 35, 36, 37, 39, 40, 42, 43, 44, 45, 46, 47, 50, 57, 58, 59, 69, 71, 72, 74, 75, 76, 78, 79, 81, 82, 83, 85, 86, 88, 89, 90, 92, 93, 95, 96, 97, 99, 100, 102, 103, 104, 106, 107, 109, 110, 111, 113, 114, 116, 117, 118, 120, 121, 123, 124, 125, 127, 128, 130, 131, 132, 134, 135, 137, 138, 139, 141, 142, 144, 145, 146, 148, 149, 151, 152, 153, 154, 155, 156, 157, 160, 162, 163, 165, 166, 167, 169, 170, 172, 173, 181, 183, 184, 186, 187, 188, 189, 190, 191, 192, 202, 203, 205, 206, 208, 209, 210, 211, 212, 213, 214, 224, 226, 227, 229, 230, 231, 232, 233, 234, 235, 245, 247, 248, 250, 251, 252, 254, 255, 257, 258, 259, 260, 261, 262, 263, 266, 268, 269, 271, 272, 273, 275, 276, 278, 279, 280, 282, 283, 285, 286, 287, 290, 291, 299, 300, 302, 303, 305, 306, 307, 309, 310, 312, 313, 314, 316, 317, 319, 320, 321, 322, 323, 324, 325, 328, 335, 337, 338, 340, 341, 342, 344, 345, 347, 348, 349, 351, 352, 354, 355, 356, 358, 359, 361, 362, 363, 365, 366, 368, 369, 370, 373, 374, 375, 376, 377, 387, 389, 390, 392, 393, 394, 397, 398, 399, 400, 401, 402, 403, 406, 407, 408, 409, 411, 412, 414, 415, 416, 418, 419, 421, 422, 423, 425, 426, 428, 429, 430, 432, 433, 435, 436, 437, 439, 440, 442, 443, 444, 446, 447, 449, 450, 451, 453, 454, 456, 457, 458, 461, 462, 470, 472, 473, 475, 476, 477, 478, 479, 480, 481, 484, 487, 488, 489, 490, 493, 494, 495, 498, 499, 500, 503, 504, 505, 507, 508, 510, 511, 519, 521, 522, 524, 525, 526, 528, 529, 531, 532, 533, 534, 535, 536, 537, 540, 542, 543, 545, 546, 547, 548, 549, 550, 551, 552, 553, 554, 557, 558, 559, 561, 562, 564, 565, 566, 569, 570, 571, 574, 575, 576, 578, 579, 581, 582, 583, 586, 587] (fun _ => by kernel_rfl)); (case hw => w_witness2))
  w_strict k_go0
  all_goals try k_fold
  k_with_none
  rename Heap.IsList _ _ _ => hsl
  rename IntsAre _ _ => hks
  (rename Fr _ _ _ _ => lF)
  refine nm_list hsl ?_
  intro sc vs e1 e2
  subst e1; subst e2
  refine nm_ints hks ?_
  intro ks e1
  subst e1
  have hlen : ks.length ≤ 63 := by omega
  (rename News _ _ _ _ => lN)
  refine nm 0 _ _ rfl lN ?_
  intro c1 o1 e1 e2; subst e2; clear e1 c1
  refine nm 1 _ _ rfl lN ?_
  intro c2 o2 e1 e2; subst e2; clear e1 c2
  rename (Obj.data o1 = _) => d1
  rename (Obj.data o2 = _) => d2
  replace d1 : o1.data = .cell none := d1
  replace d2 : o2.data = .cell none := d2
  replace lF := fr_fold [(Str.ofString "script", .ref sc)] lF (by tb_start)
  obtain ⟨u, lF⟩ := lF
  dsimp only [kstB] at lF
  k_with "call!" => ((with_reducible show wpAny _ _ (call (Value.ref 558) _) _ _ _); k_dflt (refine' CtrS.use ?kC ?kS ?k1 ?k2 ?k3 ?k4 ?k5 ?kK ?kd ?ku ?_); (case k4 => k_asm); (case kC => k_dflt (exact source_ok _ _ _ _ _ hks hlen)); (case kS => k_dflt (exact hsl)); (case k1 => k_asm); (case k2 => k_asm); (case k3 => k_asm); (case k5 => k_asm); (case kK => first | exact rfl | assumption); (case kd => ktr_room); (case ku => ktr_units); intro r9 n9 h9 tk9 F9 N9 p9; (obtain ⟨src, cl, r, cells, ns, nc, n, t1, t2, rest, e8, e9, hne, m1, hi, hns, hns2, hr, hsub⟩ := p9; subst e8; subst e9); (try dsimp only); (try k_fold))
  k_with "call!" => ((with_reducible show wpAny _ _ (call (Value.ref 575) _) _ _ _); k_dflt (refine' Ctr.use ?kC ?k1 ?k2 ?k3 ?k4 ?k5 ?kK ?kd ?ku ?_); (case k4 => k_asm); (case kC => k_dflt (exact doc_ok _ _ _ _ _ _ _ _ _ _ _ _ m1 hi hns hns2 hne hr (by omega))); (case k1 => k_asm); (case k2 => k_asm); (case k3 => k_asm); (case k5 => k_asm); (case kK => first | exact rfl | assumption); (case kd => ktr_room); (case ku => ktr_units); intro rd nd hd tkd Fd Nd pd; k_dflt (obtain ⟨r2, p2, t3, t4, n2, tl, sh, du, dn, tu, nt, oN, gs, bs, mj, vb, kvs, gl, glv, gn, fv, kvf, xs, nd, e9, hne2, hsub2, m2, hr2, hp2, e8, mtu, hT, hg4, hgl, hbl, hRef, hGrp, hInt, hOth, mdu, hxs, mdn, hdN, hvb, lodn⟩ := pd; subst e8; subst e9; have zz := plains_out Nd (hsub2 _ (hsub _ (by k_mem))) (hsub2 _ (hsub _ (by k_mem))) d1 d2 rfl; obtain ⟨Nd2, z1, z2, z3, z4⟩ := zz; replace hT := hT.subp plains_sub; replace hInt := hInt.subp plains_sub; replace mdu := plains_sub _ mdu rfl; replace mtu := plains_sub _ mtu rfl; replace mdn := plains_sub _ mdn (dict_plain hdN); replace m2 : (cl, listOf (List.toArray cells) nc) ∈ plains tl := List.mem_filter.mpr ⟨m2, rfl⟩; replace hne2 : ∀ p ∈ plains tl, p.1 ≠ src := (fun p hp => hne2 p (List.mem_filter.mp hp).1); replace hRef := (fun i v e => (hRef i v e).subp plains_sub : ∀ (i : Nat) v, glv[i]? = some v → RefAt _ v ((i : Int) + 1)); replace hGrp := (fun j m b e1 e2 => (let ⟨hv, kvh, g⟩ := hGrp j m b e1 e2; ⟨hv, kvh, g.subp plains_sub⟩) : ∀ (j : Nat) m b, gs[j]? = some m → bs[j]? = some b → ∃ hv kvh, GrpAt _ _ kvs ((j : Int) + 1) hv kvh b (menuW m)); clear Nd hsub hsub2; generalize plains tl = tf at *; have hgA := grp_all hgl hbl hRef hGrp); (try dsimp only); (try k_fold))
  k_with "call!" => ((with_reducible show wpAny _ _ (call (Value.ref 450) _) _ _ _); k_dflt (refine' Ctr.use ?kC ?k1 ?k2 ?k3 ?k4 ?k5 ?kK ?kd ?ku ?_); (case k4 => k_asm); (case kC => k_dflt (exact group_numbers_ok _ _ sh kvs gl glv gn fv kvf (hT.sub (by tb_rel)) hg4 (fun i v hi => let ⟨a, b, nm, c, d⟩ := hgA i v hi; ⟨a, b, (d.gok c).sub (by tb_rel)⟩))); (case k1 => k_asm); (case k2 => k_asm); (case k3 => k_asm); (case k5 => k_asm); (case kK => first | exact rfl | assumption); (case kd => ktr_room); (case ku => ktr_units); intro rg ng hg tkg Fg Ng pg; k_dflt (obtain ⟨lg, xg, ng, e8, e9, hltg, hxg⟩ := pg; subst e8; subst e9); (try dsimp only); (try k_fold))
  k_with "call!" => ((with_reducible show wpAny _ _ (call (Value.ref 494) _) _ _ _); k_dflt (refine' Ctr.use ?kC ?k1 ?k2 ?k3 ?k4 ?k5 ?kK ?kd ?ku ?_); (case k4 => k_asm); (case kC => k_dflt (exact configuration_ok _ _ sh kvs gl glv gn fv _ kvf _ (hT.sub (by tb_rel)) rfl (hInt.sub (by tb_rel)) hOth)); (case k1 => k_asm); (case k2 => k_asm); (case k3 => k_asm); (case k5 => k_asm); (case kK => first | exact rfl | assumption); (case kd => ktr_room); (case ku => ktr_units); intro rc nc hc tkc Fc Nc pc; k_dflt (obtain ⟨prc, e8, hcf⟩ := pc; subst e8); (try dsimp only); (try k_fold))
  k_with "call!" => ((with_reducible show wpAny _ _ (call (Value.ref 499) _) _ _ _); k_dflt (refine' Ctr.use ?kC ?k1 ?k2 ?k3 ?k4 ?k5 ?kK ?kd ?ku ?_); (case k4 => k_asm); (case kC => k_dflt (exact counted_ok _ _ sh kvs gl glv gn fv _ kvf _ _ (hT.sub (by tb_rel)) hg4 (fun i v hi => let ⟨a, b, nm, c, d⟩ := hgA i v hi; ⟨a, b, nm, c.sub (by tb_rel), d.sub (by tb_rel)⟩) hcf)); (case k1 => k_asm); (case k2 => k_asm); (case k3 => k_asm); (case k5 => k_asm); (case kK => first | exact rfl | assumption); (case kd => ktr_room); (case ku => ktr_units); intro rk nk hk tkk Fk Nk pk; k_dflt (obtain ⟨lk, xk, nk, e8, e9, hxk⟩ := pk; subst e8; subst e9); (try dsimp only); (try k_fold))
  k_with "call type:list" => (k_dflt (refine' list_D ?qh ?qF ?qN ?qp hdN lodn ?qz ?_); (case qh => exact rfl); (case qF => k_asm); (case qN => k_asm); (case qp => k_mem); (case qz => (rw [keyed_length, hvb.length]; omega)); intro lB cB hB tkB vB FB NB ltB hxB; (rw [keyed_fst, hvb.length, hbl] at hxB); (try dsimp only); (try k_fold))
  k_with "compareOp NotEq ref ref" => (k_dflt (refine' ne_ints_L ?qN ?ql ?qb ?qu hxg hxB ?_); (case qN => k_asm); (case ql => k_mem); (case qb => k_mem); (case qu => ktr_units))
  k_with "compareOp NotEq ref ref" => (k_dflt (refine' ne_ints_L ?qN ?ql ?qb ?qu hxk hxs ?_); (case qN => k_asm); (case ql => k_mem); (case qb => k_mem); (case qu => ktr_units))
  wrow_steps
  unfold Held
  (rename Fr _ _ _ _ => lF); (rename News _ _ _ _ => lN)
  have hT' := hT
  obtain ⟨tr, kvt, rv, kvr, ov, kvo, hsh, hTr⟩ := hT'
  clear hTr
  refine nm_led lN ?_
  intro LED eL
  refine' srcU_D (kvs := keyed vb) (fun i ys nx => BytesAre ys (bs.take i) ∧ nx = LED) (by rfl) lodn lF lN (by k_mem) hdN ?dz ⟨.nil, eL.symm⟩ ?dt ?df
  case dz => (rw [keyed_length, hvb.length]; omega)
  case dt =>
    clear lF lN
    intro i k v t ys nx I oI C oC D m₂ h tk E' hkv hJ hC hx F N o3 n3
    obtain ⟨hB, e9⟩ := hJ
    subst e9
    subst eL
    obtain ⟨ek, hvi⟩ := keyed_get hkv
    subst ek
    obtain ⟨b, tb, hb, ev⟩ := bytes_get hvb hvi
    obtain ⟨hv, kvh, hG⟩ := hGrp i _ b (get_of_bytes (by rw [hgl, hbl]) hb) hb
    k_with_none
    k_with "call!" => ((with_reducible show wpAny _ _ (call (Value.ref 457) _) _ _ _); k_dflt (refine' Ctr.use ?kC ?k1 ?k2 ?k3 ?k4 ?k5 ?kK ?kd ?ku ?_); (case k4 => k_asm); (case kC => k_dflt (exact group_label_ok _ _ kvs sh tr _ _ hv kvh b _ (hsh.sub (by tb_rel)) (hG.sub (by tb_rel)))); (case k1 => k_asm); (case k2 => k_asm); (case k3 => k_asm); (case k5 => k_asm); (case kK => first | exact rfl | assumption); (case kd => ktr_room); (case ku => ktr_units); intro rl nl hl tkl Fl Nl pl; k_dflt (obtain ⟨⟨tl9, e8⟩, e9⟩ := pl; subst e8; subst e9); (try dsimp only); (try k_fold))
    wrow_steps
    unfold Held
    (k_dflt (refine' end_same ?Fq1 ?Nq1 ?subq1 ?offq1 ?hSq1 ?rq1); (case Fq1 => k_asm); (case Nq1 => k_asm); (case subq1 => tb_rel); (case offq1 => assumption); (case hSq1 => first | assumption | k_mem); (case rq1 => exact (by rw [take_snoc hb]; exact BytesAre.snoc hB _ _)))
  case df =>
    clear lF lN
    intro g8 ys nx hJ
    obtain ⟨hB, e9⟩ := hJ
    subst e9
    subst eL
    rw [keyed_length, hvb.length, List.take_length] at hB
    unfold LCg.FinE
    intro D h tk F N o1
    have dn1 := off1_mem o1
    wrow_steps
    unfold Held
    (rename Fr _ _ _ _ => lF); (rename News _ _ _ _ => lN)
    refine nm_led lN ?_
    intro LED eL
    refine' srcU_D (kvs := keyed vb) (fun i ys nx => BytesAre ys (bs.take i) ∧ nx = LED) (by rfl) lodn lF lN (by k_mem) hdN ?ez ⟨.nil, eL.symm⟩ ?et ?ef
    case ez => (rw [keyed_length, hvb.length]; omega)
    case et =>
      clear lF lN
      intro i k v t ys nx I oI C oC D2 m₂ h tk E' hkv hJ hC hx F N o3 n3
      obtain ⟨hB2, e9⟩ := hJ
      subst e9
      subst eL
      obtain ⟨ek, hvi⟩ := keyed_get hkv
      subst ek
      obtain ⟨b, tb, hb, ev⟩ := bytes_get hvb hvi
      subst ev
      k_with_none
      k_with "subscriptTail" => ((with_reducible show wpAny _ _ (subscriptTail _ _ (Value.ref dn) _) _ _ _); k_dflt (refine' kda_item (knd := PySem.intKind _ _) ?yN ?ym hdN (intKind_is _ _ _ _) (keyed_at _ vb rfl hvi) ?_ ?yh ?yg); (case yN => k_asm); (case ym => k_mem); (case yh => with_unfolding_all rfl); (case yg => intro _; with_unfolding_all rfl))
      wrow_steps
      unfold Held
      (k_dflt (refine' end_same ?Fq2 ?Nq2 ?subq2 ?offq2 ?hSq2 ?rq2); (case Fq2 => k_asm); (case Nq2 => k_asm); (case subq2 => tb_rel); (case offq2 => assumption); (case hSq2 => first | assumption | k_mem); (case rq2 => exact (by rw [take_snoc hb]; exact BytesAre.snoc hB2 _ _)))
    case ef =>
      clear lF lN
      intro g8 zs nx hJ
      obtain ⟨hB2, e9⟩ := hJ
      subst e9
      subst eL
      rw [keyed_length, hvb.length, List.take_length] at hB2
      unfold LCg.FinE
      intro D2 h tk F N o1
      have dn2 := off1_mem o1
      k_with_none
      k_with "compareOp NotEq ref ref" => (k_dflt (refine' ne_bytes_L ?qN ?ql ?qb ?qu hB hB2 ?_); (case qN => k_asm); (case ql => k_mem); (case qb => k_mem); (case qu => ktr_units))
      k_with "call!" => ((with_reducible show wpAny _ _ (call (Value.ref 582) _) _ _ _); k_dflt (refine' Ctr.use ?kC ?k1 ?k2 ?k3 ?k4 ?k5 ?kK ?kd ?ku ?_); (case k4 => k_dflt (exact cb_drop (news := ((src, srcO cl r2 p2 t3 t4 n2) :: tf)) (by k_asm) (by tb_rel))); (case kC => k_dflt (exact row_ok _ _ src cl cells ns nc _ _ _ _ _ m2 hi hns hns2 hne2 hr2 (by omega))); (case k1 => k_asm); (case k2 => k_asm); (case k3 => k_asm); (case k5 => k_asm); (case kK => first | exact rfl | assumption); (case kd => ktr_room); (case ku => ktr_units); intro rr nr hr tkr Fr Nr pr; k_dflt (obtain ⟨tw, ntw, lf, nf, fv, ld, nd2, dv, ops, e8, mtw, mlf, mld, hopl, hops, hdats, hdl, hsubr⟩ := pr; subst e8; have hfl : fv.length ≤ 8 := (by rw [hops.length]; exact hopl)); (try dsimp only); (try k_fold))
      k_with "call!" => ((with_reducible show wpAny _ _ (call (Value.ref 190) _) _ _ _); k_dflt (refine' Ctr.use ?kC ?k1 ?k2 ?k3 ?k4 ?k5 ?kK ?kd ?ku ?_); (case k4 => k_asm); (case kC => k_dflt (exact name_mk _ _ _ _)); (case k1 => k_asm); (case k2 => k_asm); (case k3 => k_asm); (case k5 => k_asm); (case kK => first | exact rfl | assumption); (case kd => ktr_room); (case ku => ktr_units); intro ra na ha tka Fa Na pa; (obtain ⟨prea, e8, hna, haa⟩ := pa; subst e8); (try dsimp only); (try k_fold))
      k_with "call!" => ((have q9 := hna); clear q9; (with_reducible show wpAny _ _ (call (Value.ref 190) _) _ _ _); k_dflt (refine' Ctr.use ?kC ?k1 ?k2 ?k3 ?k4 ?k5 ?kK ?kd ?ku ?_); (case k4 => k_asm); (case kC => k_dflt (exact name_mk _ _ _ _)); (case k1 => k_asm); (case k2 => k_asm); (case k3 => k_asm); (case k5 => k_asm); (case kK => first | exact rfl | assumption); (case kd => ktr_room); (case ku => ktr_units); intro rb nb hb tkb Fb Nb pb; (obtain ⟨preb, e8, hnb, hab⟩ := pb; subst e8); (try dsimp only); (try k_fold))
      k_with "call!" => ((with_reducible show wpAny _ _ (call (Value.ref 401) _) _ _ _); k_dflt (refine' Ctr.use ?kC ?k1 ?k2 ?k3 ?k4 ?k5 ?kK ?kd ?ku ?_); (case k4 => k_asm); (case kC => k_dflt (exact op_mk _ _ _ _ _)); (case k1 => k_asm); (case k2 => k_asm); (case k3 => k_asm); (case k5 => k_asm); (case kK => first | exact rfl | assumption); (case kd => ktr_room); (case ku => ktr_units); intro ro no ho tko Fo No po; (obtain ⟨preo, e8, hno, hao⟩ := po; subst e8); (try dsimp only); (try k_fold))
      k_with "call!" => ((have q9 := hno); clear q9; (with_reducible show wpAny _ _ (call (Value.ref 401) _) _ _ _); k_dflt (refine' Ctr.use ?kC ?k1 ?k2 ?k3 ?k4 ?k5 ?kK ?kd ?ku ?_); (case k4 => k_asm); (case kC => k_dflt (exact op_mk _ _ _ _ _)); (case k1 => k_asm); (case k2 => k_asm); (case k3 => k_asm); (case k5 => k_asm); (case kK => first | exact rfl | assumption); (case kd => ktr_room); (case ku => ktr_units); intro rq nq hq tkq Fq Nq pq; (obtain ⟨preq, e8, hnq, haq⟩ := pq; subst e8); (try dsimp only); (try k_fold))
      k_with "binaryOp Add ref ref" => (k_dflt (refine' addl_L ?qF ?qN ?ql ?qb ?qz ?_); (case qF => k_asm); (case qN => k_asm); (case ql => k_mem); (case qb => k_mem); (case qz => (simp only [List.length_append, List.length_cons, List.length_nil]; omega)); intro lA cA hA tkA FA NA ltA; (try dsimp only); (try k_fold))
      k_with "call!" => ((with_reducible show wpAny _ _ (call (Value.ref 546) _) _ _ _); k_dflt (refine' Ctr.use ?kC ?k1 ?k2 ?k3 ?k4 ?k5 ?kK ?kd ?ku ?_); (case k4 => k_asm); (case kC => k_dflt (exact vis_ok _ _ _ _ _ _ _ _ ro rq ra rb _ _ fv ops (by k_mem) (hops.mono fun h => h.sub (by tb_rel)) hopl (hno.sub (by tb_rel)) (by k_mem) (hna.sub (by tb_rel)) (hnb.sub (by tb_rel)) (by k_mem) (by assumption) (by assumption) (hnq.sub (by tb_rel)) (by k_mem))); (case k1 => k_asm); (case k2 => k_asm); (case k3 => k_asm); (case k5 => k_asm); (case kK => first | exact rfl | assumption); (case kd => ktr_room); (case ku => ktr_units); intro rv nv hv tkv Fv Nv pv; k_dflt (obtain ⟨lv, nv, wv, prv, e8, e9, hvis⟩ := pv; subst e8; subst e9); (try dsimp only); (try k_fold))
      wrow_steps
      unfold Held
      (rename Fr _ _ _ _ => lF); (rename News _ _ _ _ => lN)
      refine name_op hno ?_
      intro l8 e1; subst e1
      refine name_op hnq ?_
      intro l9 e1; subst e1
      refine nm_all2 hvis ?_
      intro BS eB
      have f1 : OpAt BS ro (Str.ofString "BDC") l8 := by rw [eB]; exact hno.sub (by tb_rel)
      have f2 : OpAt BS rq (Str.ofString "EMC") l9 := by rw [eB]; exact hnq.sub (by tb_rel)
      have f3 : NameAt BS ra (Str.ofString "OC") := by rw [eB]; exact hna.sub (by tb_rel)
      have f4 : NameAt BS rb (Str.ofString "A") := by rw [eB]; exact hnb.sub (by tb_rel)
      have f5 : (l8, listOf (List.toArray [ra, rb]) 0) ∈ BS := by rw [eB]; k_mem
      have f6 : (l9, listOf (List.toArray []) 0) ∈ BS := by rw [eB]; k_mem
      have f7 : (ld, listOf (List.toArray dv) nd2) ∈ BS := by rw [eB]; k_mem
      have f8 : All2 (DatIn BS) dv (runOf ops).out := hdats.mono fun h => h.mono (by rw [eB]; tb_rel)
      rw [← eB] at hvis lN
      have hwl : wv.length ≤ 1000 := by
        have q1 := hvis.length
        have q2 := hdats.length
        rw [List.length_append, List.length_cons, List.length_singleton] at q1
        omega
      have f1' := f1
      obtain ⟨a8, da8, h81, k81, t81, h82, k82, c8, ev8, g81, g82⟩ := f1'
      have f2' := f2
      obtain ⟨a9, da9, h91, k91, t91, h92, k92, c9, ev9, g91, g92⟩ := f2'
      refine' compU_list (xs := wv) (fun i ys nx => ∃ pre, nx = pre ++ (lv, listOf (List.toArray wv) nv) :: BS ∧ All2 (DatIn nx) ys ((openDat :: (runOf ops).out ++ [closeDat]).take i)) (by rfl) lF lN (by k_mem) hwl ⟨[], rfl, .nil⟩ ?ht ?hf
      case ht =>
        clear lF lN
        intro i v ys nx I oI C oC D3 m₂ h tk E' hv hJ hS hC hx F N o3 n3
        obtain ⟨pre, e9, hys⟩ := hJ
        subst e9
        obtain ⟨d, hd, hT2⟩ := hvis.get hv
        obtain ⟨x, l, vs2, n9, ds, ho, hl, hos, hlen2, ed⟩ := hT2
        have ho' := ho
        obtain ⟨a, da, h1, k1, t1, h2, k2, c, ev, g1, g2⟩ := ho'
        subst ev
        k_with_none
        k_with "method!" => (k_dflt (refine' method_inst ?k1 ?k2 ?k3 ?k4 ?k5 ?k6 ?k7 ?_); (case k1 => k_asm); (case k2 => k_asm); (case k3 => k_inst); (case k4 => k_is); (case k5 => k_is); (case k6 => k_is); (case k7 => k_get); k_whole)
        k_with "call!" => ((with_reducible show wpAny _ _ (call (Value.ref 398) _) _ _ _); k_dflt (refine' Ctr.use ?kC ?k1 ?k2 ?k3 ?k4 ?k5 ?kK ?kd ?ku ?_); (case k4 => k_asm); (case kC => k_dflt (exact optold_ok _ _ (.ref a) _ l vs2 n9 ds (ho.sub (by tb_rel)) (by k_mem) (hos.sub (by tb_rel)) hlen2)); (case k1 => k_asm); (case k2 => k_asm); (case k3 => k_asm); (case k5 => k_asm); (case kK => first | exact rfl | assumption); (case kd => ktr_room); (case ku => ktr_units); intro r7 n7 h7 tk7 F7 N7 p7; (obtain ⟨pre7, e8, hd7, ha7⟩ := p7; subst e8); (try dsimp only); (try k_fold))
        wrow_steps
        unfold Held
        k_dflt (refine' end_app (pre := pre7) (nx := pre ++ (lv, listOf (List.toArray wv) nv) :: BS) ?eF ?eN ha7 o3 (srcAt_app hS) ?er)
        case eF => k_asm
        case eN => k_asm
        case er => exact ⟨pre7 ++ pre, (List.append_assoc ..).symm, (by rw [take_snoc hd, ed]; exact (hys.mono fun h => h.mono (by tb_rel)).append (.cons (hd7.mono (by tb_rel)) .nil))⟩
      case hf =>
        clear lF lN
        subst ev8
        subst ev9
        intro g8 hs nx hJ
        obtain ⟨pre, e9, hh⟩ := hJ
        subst e9
        rw [hvis.length, List.take_length] at hh
        unfold LCg.FinA
        intro D3 h tk F N o1
        replace F := fr_fold [(Str.ofString "heard", .ref D3), (Str.ofString "opening", .ref a8), (Str.ofString "closing", .ref a9), (Str.ofString "seen", .ref ld)] F (by tb_start)
        obtain ⟨u9, F⟩ := F
        dsimp only [kstB] at F
        k_with_none
        k_with "method!" => (k_dflt (refine' method_inst ?k1 ?k2 ?k3 ?k4 ?k5 ?k6 ?k7 ?_); (case k1 => k_asm); (case k2 => k_asm); (case k3 => k_inst); (case k4 => k_is); (case k5 => k_is); (case k6 => k_is); (case k7 => k_get); k_whole)
        k_with "call!" => ((with_reducible show wpAny _ _ (call (Value.ref 398) _) _ _ _); k_dflt (refine' Ctr.use ?kC ?k1 ?k2 ?k3 ?k4 ?k5 ?kK ?kd ?ku ?_); (case k4 => k_asm); (case kC => (k_dflt (show Ctr _ _ _ [Value.ref a8] _ _)); k_dflt (exact optold_ok _ _ (.ref a8) _ l8 [ra, rb] _ _ (f1.sub (by tb_rel)) (by k_mem) (.cons (.name (f3.sub (by tb_rel))) (.cons (.name (f4.sub (by tb_rel))) .nil)) (Nat.le_refl 2))); (case k1 => k_asm); (case k2 => k_asm); (case k3 => k_asm); (case k5 => k_asm); (case kK => first | exact rfl | assumption); (case kd => ktr_room); (case ku => ktr_units); intro r8 n8 h8 tk8 F8 N8 p8; (obtain ⟨pre8, e8, hd8, ha8⟩ := p8; subst e8); (try dsimp only); (try k_fold))
        k_with "call!" => ((with_reducible show wpAny _ _ (call (Value.ref 398) _) _ _ _); k_dflt (refine' Ctr.use ?kC ?k1 ?k2 ?k3 ?k4 ?k5 ?kK ?kd ?ku ?_); (case k4 => k_asm); (case kC => (k_dflt (show Ctr _ _ _ [Value.ref a9] _ _)); k_dflt (exact optold_ok _ _ (.ref a9) _ l9 [] _ _ (f2.sub (by tb_rel)) (by k_mem) .nil (Nat.zero_le 2))); (case k1 => k_asm); (case k2 => k_asm); (case k3 => k_asm); (case k5 => k_asm); (case kK => first | exact rfl | assumption); (case kd => ktr_room); (case ku => ktr_units); intro r9 n9 h9 tk9 F9 N9 p9; (obtain ⟨pre9, e8, hd9, ha9⟩ := p9; subst e8); (try dsimp only); (try k_fold))
        k_with "binaryOp Add ref ref" => (k_dflt (refine' addl_L ?qF ?qN ?ql ?qb ?qz ?_); (case qF => k_asm); (case qN => k_asm); (case ql => k_mem); (case qb => k_mem); (case qz => (simp only [List.length_append, List.length_cons, List.length_nil]; omega)); intro lA cA hA tkA FA NA ltA; (try dsimp only); (try k_fold))
        k_with "compareOp Eq ref ref" => (k_dflt (refine' eq_dats_L (ds := openDat :: (runOf ops).out ++ [closeDat]) ?qN ?ql ?qb ?qu (told_ok ops) ?qx ?qy ?_); (case qN => k_asm); (case ql => k_mem); (case qb => k_mem); (case qu => ktr_units); (case qx => k_dflt (exact hh.mono fun h => h.mono (by tb_rel))); (case qy => k_dflt (exact ((All2.cons (hd8.mono (by tb_rel)) .nil).append (f8.mono fun h => h.mono (by tb_rel))).append (.cons (hd9.mono (by tb_rel)) .nil))))
        wrow_steps
        refine goodW_bool FA (by with_reducible assumption) (raisesW_false ?_) ?_
        · intro ct hct
          exact nomatch hct
        · exact postW_of rfl (w_eq_bool (w_res rfl) w_lit) rfl
set_option Elab.async false
end
end
end
end
end
end
end
end
end Mine
theorem PySem.Challenge.cw_qd0128_01_holds : PySem.Challenge.rw_qd0128_01.Holds :=
  Mine.fin
