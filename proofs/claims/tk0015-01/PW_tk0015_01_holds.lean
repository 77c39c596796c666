import PyProof.Rows.All
import Wide.All
import OpenK.AllK
import Wide.FinOn
import PySem.Challenge.RW_tk0015_01
open PySem PySem.W PyProof.Rows
set_option Elab.async false
set_option maxRecDepth 100000
set_option maxHeartbeats 8000000
set_option linter.all false
set_option genInjectivity false
namespace Mine
open PySem.Spec PySem.Calls

/-- nothing is raised -/
noncomputable def NoE : Value → Shared → Prop := fun _ _ => False
theorem noE {α : Type} {M : Model} {A : Around} {t : Sem α} {Q : α → Shared → Prop} {E : Value → Shared → Prop} {s : Shared} (h : wpAny M A t Q NoE s) : wpAny M A t Q E s :=
  wpAny_mono h (fun _ _ q => q) fun _ _ f => f.elim

/-- the addresses of a ledger differ -/
structure Dist (as : List Nat) : Prop where
  nd : as.Nodup
theorem Dist.push {d : Nat} {news : List (Addr × Obj)} (D : Dist (news.map (·.1))) (h : ∀ p ∈ news, p.1 < d) : Dist (d :: news.map (·.1)) :=
  ⟨List.nodup_cons.mpr ⟨fun hm => by obtain ⟨p, hp, e⟩ := List.mem_map.mp hm; exact Nat.lt_irrefl _ (e ▸ h p hp), D.nd⟩⟩
/-- one entry turned -/
inductive Rep (d : Addr) (o o' : Obj) : List (Addr × Obj) → List (Addr × Obj) → Prop
  | head {r} : Rep d o o' ((d, o) :: r) ((d, o') :: r)
  | tail {p r r'} : Rep d o o' r r' → Rep d o o' (p :: r) (p :: r')
/-- one entry turned, to what is not yet known -/
inductive RepF (d : Addr) (o : Obj) : List (Addr × Obj) → (Obj → List (Addr × Obj)) → Prop
  | head {r} : RepF d o ((d, o) :: r) fun o' => (d, o') :: r
  | tail {p r g} : RepF d o r g → RepF d o (p :: r) fun o' => p :: g o'
/-- one entry taken out -/
inductive Tak (d : Addr) (o : Obj) : List (Addr × Obj) → List (Addr × Obj) → Prop
  | head {r} : Tak d o ((d, o) :: r) r
  | tail {p r r'} : Tak d o r r' → Tak d o (p :: r) (p :: r')
theorem Rep.mem {d : Addr} {o o' : Obj} {l l' : List (Addr × Obj)} (R : Rep d o o' l l') : (d, o) ∈ l := by
  induction R with
  | head => exact .head _
  | tail _ ih => exact .tail _ ih
theorem RepF.mem {d : Addr} {o : Obj} {l : List (Addr × Obj)} {g : Obj → List (Addr × Obj)} (R : RepF d o l g) : (d, o) ∈ l := by
  induction R with
  | head => exact .head _
  | tail _ ih => exact .tail _ ih
theorem Tak.mem {d : Addr} {o : Obj} {l l' : List (Addr × Obj)} (R : Tak d o l l') : (d, o) ∈ l := by
  induction R with
  | head => exact .head _
  | tail _ ih => exact .tail _ ih
theorem Dist.head {d : Addr} {o : Obj} {r : List (Addr × Obj)} (D : Dist (((d, o) :: r).map (·.1))) : ∀ p ∈ r, p.1 ≠ d := fun p hp e =>
  (List.nodup_cons.mp D.nd).1 (List.mem_map.mpr ⟨p, hp, e⟩)
theorem Dist.tail {q : Addr × Obj} {r : List (Addr × Obj)} (D : Dist ((q :: r).map (·.1))) : Dist (r.map (·.1)) := ⟨(List.nodup_cons.mp D.nd).2⟩
theorem Dist.ne {q p : Addr × Obj} {r : List (Addr × Obj)} (D : Dist ((q :: r).map (·.1))) (hp : p ∈ r) : q.1 ≠ p.1 := fun e =>
  (List.nodup_cons.mp D.nd).1 (List.mem_map.mpr ⟨p, hp, e.symm⟩)
theorem Rep.upd {d : Addr} {o o' : Obj} {l l' : List (Addr × Obj)} (R : Rep d o o' l l') (D : Dist (l.map (·.1))) : Upd d o o' l l' := by
  induction R with
  | head => exact .head D.head
  | tail R ih => exact .tail (D.ne R.mem) (ih D.tail)
theorem RepF.upd {d : Addr} {o : Obj} {l : List (Addr × Obj)} {g : Obj → List (Addr × Obj)} (R : RepF d o l g) (D : Dist (l.map (·.1))) : UpdF d o l g := by
  induction R with
  | head => exact .head D.head
  | tail R ih => exact .tail (D.ne R.mem) (ih D.tail)
theorem RepF.map {d : Addr} {o : Obj} {l : List (Addr × Obj)} {g : Obj → List (Addr × Obj)} (R : RepF d o l g) (o' : Obj) : (g o').map (·.1) = l.map (·.1) := by
  induction R with
  | head => rfl
  | tail _ ih => show _ :: _ = _ :: _; rw [ih]
/-- the entry (d, o) taken out of a ledger that holds nothing else at d -/
structure Pick (d : Addr) (o : Obj) (l r : List (Addr × Obj)) : Prop where
  mem : (d, o) ∈ l
  sub : ∀ p ∈ r, p ∈ l
  off : ∀ p ∈ r, p.1 ≠ d
theorem Tak.pick {d : Addr} {o : Obj} {l r : List (Addr × Obj)} (R : Tak d o l r) (D : Dist (l.map (·.1))) : Pick d o l r := by
  induction R with
  | head => exact ⟨.head _, fun p hp => .tail _ hp, D.head⟩
  | tail R ih =>
    have z := ih D.tail
    refine ⟨.tail _ z.mem, fun p hp => ?_, fun p hp => ?_⟩
    · rcases List.mem_cons.mp hp with rfl | hp
      · exact .head _
      · exact .tail _ (z.sub p hp)
    · rcases List.mem_cons.mp hp with rfl | hp
      · exact D.ne R.mem
      · exact z.off p hp
theorem Tak.dist {d : Addr} {o : Obj} {l r : List (Addr × Obj)} (R : Tak d o l r) (D : Dist (l.map (·.1))) : Dist (r.map (·.1)) := by
  have : (r.map (·.1)).Sublist (l.map (·.1)) := by
    clear D
    induction R with
    | head => exact List.sublist_cons_self _ _
    | tail _ ih => exact List.Sublist.cons_cons _ ih
  exact ⟨this.nodup D.nd⟩
/-- the same, seen from a turning place -/
theorem RepF.pick {d : Addr} {o : Obj} {l : List (Addr × Obj)} {g : Obj → List (Addr × Obj)} (R : RepF d o l g) (D : Dist (l.map (·.1))) : ∃ r, Pick d o l r ∧ ∀ o' p, p ∈ g o' → p = (d, o') ∨ p ∈ r := by
  induction R with
  | head => exact ⟨_, ⟨.head _, fun p hp => .tail _ hp, D.head⟩, fun o' p hp => by rcases List.mem_cons.mp hp with h | h; exact .inl h; exact .inr h⟩
  | tail R ih =>
    rename_i q _ _
    obtain ⟨r, z, hr⟩ := ih D.tail
    refine ⟨q :: r, ⟨.tail _ z.mem, fun p hp => ?_, fun p hp => ?_⟩, fun o' p hp => ?_⟩
    · rcases List.mem_cons.mp hp with rfl | hp
      · exact .head _
      · exact .tail _ (z.sub p hp)
    · rcases List.mem_cons.mp hp with rfl | hp
      · exact D.ne R.mem
      · exact z.off p hp
    · rcases List.mem_cons.mp hp with rfl | hp
      · exact .inr (.head _)
      · rcases hr o' p hp with h | h
        · exact .inl h
        · exact .inr (.tail _ h)

section
variable {h₀ h h' : Heap} {L d : Addr} {m : Str → Option Value} {o o' : Obj} {news rest : List (Addr × Obj)} {g : Obj → List (Addr × Obj)}
theorem fr_at (P : (d, o) ∈ news) (F : Fr h₀ L h m) (N : News h₀ L h news) (hs : Heap.SameBut d h h') : Fr h₀ L h' m := F.change hs (N _ P).2.1 (N _ P).2.2
theorem news_rep (R : RepF d o news g) (D : Dist (news.map (·.1))) (N : News h₀ L h news) (hs : Heap.SameBut d h h') (hg : h'.get? d = some o') : News h₀ L h' (g o') := fun p hp => by
  obtain ⟨r, z, hr⟩ := R.pick D
  rcases hr o' p hp with rfl | hp
  · exact ⟨hg, (N _ R.mem).2⟩
  · exact ⟨(hs.2 _ (z.off p hp)).trans (N p (z.sub p hp)).1, (N p (z.sub p hp)).2⟩
theorem fr_ext (P : (d, o) ∈ news) (F : Fr h₀ L h m) (N : News h₀ L h news) (he : Heap.ExtBut d h h') : Fr h₀ L h' m :=
  ⟨F.ns.at' fun _ e => he _ _ (Ne.symm (N _ P).2.1) e, fun b q e => he b q (fun z => by rw [z, (N _ P).2.2] at e; cases e) (F.keep b q e), F.above⟩
theorem news_ext (P : Pick d o news rest) (N : News h₀ L h news) (he : Heap.ExtBut d h h') : News h₀ L h' rest :=
  fun p hp => ⟨he _ _ (P.off p hp) (N p (P.sub p hp)).1, (N p (P.sub p hp)).2⟩
theorem news_sub (N : News h₀ L h news) (hs : ∀ p ∈ rest, p ∈ news) : News h₀ L h rest := fun p hp => N p (hs p hp)
theorem fresh_of (F : Fr h₀ L h m) {a : Addr} (ha : h.objs.size ≤ a) : h₀.get? a = none := by
  cases e : h₀.get? a with
  | none => rfl
  | some q => exact absurd (Heap.lt_size (F.keep a q e)) (Nat.not_lt.mpr ha)
end

/-- the item at a place -/
inductive At (v : Value) : List Value → Nat → Prop
  | zero {r} : At v (v :: r) 0
  | succ {x r i} : At v r i → At v (x :: r) (i + 1)
theorem At.get {v : Value} {vs : List Value} {i : Nat} (h : At v vs i) : vs.toArray[i]? = some v := by
  rw [List.getElem?_toArray]
  induction h with
  | zero => rfl
  | succ _ ih => simpa using ih
theorem noPylong_bits {x y : Int} (h : Builtin.Int.intBits y ≤ 64) : Builtin.divisionGoesByPylong x y = false := by
  refine PyProof.noPylong_of_log2 ?_
  unfold Builtin.Int.intBits at h
  split at h
  · rename_i q
    have : y = 0 := by simpa using q
    subst this
    decide +kernel
  · omega
/-- iterators, by what stands in them -/
noncomputable def LI (ax : Addr) (i : Nat) (o : Obj) : Prop := o.cls = .type "list_iterator" ∧ o.data = .fields #[.ref ax, .int (i : Int) 0]
noncomputable def TI (ax : Addr) (i : Nat) (o : Obj) : Prop := o.cls = .type "tuple_iterator" ∧ o.data = .fields #[.ref ax, .int (i : Int) 0]
abbrev tupOf (its : Array Value) (n : Nat) : Obj := { cls := .type "tuple", data := .seq its n }
abbrev enOf (own : Value) (it : Addr) (i : Int) (old : Value) : Obj := { cls := .type "enumerate", data := .fields #[own, .bool false, .ref it, rawInt i, .none, old] }

section
variable {prog : Program} {w : World} {A : Around} {E : Value → Shared → Prop} {s : Shared} {h₀ : Heap} {L I ax : Addr} {m : Str → Option Value} {oI : Obj} {its : Array Value} {vs : List Value} {i n : Nat} {v : Value} {news rest : List (Addr × Obj)} {g : Obj → List (Addr × Obj)}

theorem iter_list {Q : Value → Shared → Prop} (F : Fr h₀ L s.heap m) (N : News h₀ L s.heap news) (hl : (ax, listOf its n) ∈ news)
    (h : ∀ I h' oI, Fr h₀ L h' m → News h₀ L h' ((I, oI) :: news) → LI ax 0 oI → (∀ p ∈ news, p.1 < I) → Q (.ref I) { s with heap := h' }) : wpAny (model prog w) A (pyIter (.ref ax)) Q E s :=
  wpAny_pyIter_list ⟨_, (N _ hl).1, rfl, _, rfl⟩ (h _ _ _ (F.push _) (N.push F _) ⟨rfl, rfl⟩ fun p hp => Heap.lt_size (N p hp).1)
theorem iter_tuple {Q : Value → Shared → Prop} (F : Fr h₀ L s.heap m) (N : News h₀ L s.heap news) (hl : (ax, tupOf its n) ∈ news)
    (h : ∀ I h' oI, Fr h₀ L h' m → News h₀ L h' ((I, oI) :: news) → TI ax 0 oI → (∀ p ∈ news, p.1 < I) → Q (.ref I) { s with heap := h' }) : wpAny (model prog w) A (pyIter (.ref ax)) Q E s :=
  wpAny_pyIter_tuple ⟨_, (N _ hl).1, rfl, _, rfl⟩ (h _ _ _ (F.push _) (N.push F _) ⟨rfl, rfl⟩ fun p hp => Heap.lt_size (N p hp).1)
theorem size_one {a b : Int} (h : a ≤ b) : Builtin.Range.rangeSize a b 1 = b - a := by
  unfold Builtin.Range.rangeSize
  simp
  omega
theorem iter_range {Q : Value → Shared → Prop} {r : Addr} {a b : Int} {t u v : Tok} (F : Fr h₀ L s.heap m) (N : News h₀ L s.heap news) (hr : IsRange s.heap r a b 1 t u v) (hsm : Builtin.Range.small a b 1 = true) (hab : a ≤ b)
    (h : ∀ I h', Fr h₀ L h' m → News h₀ L h' ((I, itR a (b - a)) :: news) → (∀ p ∈ news, p.1 < I) → Q (.ref I) { s with heap := h' }) : wpAny (model prog w) A (pyIter (.ref r)) Q E s :=
  wpAny_pyIter_range hr hsm (by rw [size_one hab]; exact h _ _ (F.push _) (N.push F _) fun p hp => Heap.lt_size (N p hp).1)
theorem iter_enum {Q : Value → Shared → Prop} {e it : Addr} {k : Int} {old : Value} (N : News h₀ L s.heap news) (he : (e, enOf .none it k old) ∈ news) (h : Q (.ref e) s) : wpAny (model prog w) A (pyIter (.ref e)) Q E s :=
  wpAny_pyIter_enum (N _ he).1 h

theorem next_list {Q : Option Value → Shared → Prop} (F : Fr h₀ L s.heap m) (N : News h₀ L s.heap news) (D : Dist (news.map (·.1))) (P : RepF I oI news g) (hI : LI ax i oI) (hl : (ax, listOf vs.toArray n) ∈ news) (hv : At v vs i)
    (h : ∀ h' oI', Fr h₀ L h' m → News h₀ L h' (g oI') → LI ax (i + 1) oI' → Q (some v) { s with heap := h' }) : wpAny (model prog w) A (pyNext (.ref I)) Q E s :=
  wpAny_pyNext_list_item ⟨_, (N _ P.mem).1, hI⟩ ⟨_, (N _ hl).1, rfl, _, rfl⟩ hv.get fun h' ⟨oI', hg, hI'⟩ hs => h h' oI' (fr_at P.mem F N hs) (news_rep P D N hs hg) hI'
theorem next_list_end {Q : Option Value → Shared → Prop} (hh : A.handled = none) (F : Fr h₀ L s.heap m) (N : News h₀ L s.heap news) (D : Dist (news.map (·.1))) (P : Tak I oI news rest) (hI : LI ax i oI) (hl : (ax, listOf its n) ∈ news) (hv : its[i]? = none)
    (h : ∀ h', Fr h₀ L h' m → News h₀ L h' rest → Dist (rest.map (·.1)) → Q none { s with heap := h' }) : wpAny (model prog w) A (pyNext (.ref I)) Q E s :=
  wpAny_pyNext_list_end hh ⟨_, (N _ P.mem).1, hI⟩ ⟨_, (N _ hl).1, rfl, _, rfl⟩ hv fun h' he => h h' (fr_ext P.mem F N he) (news_ext (P.pick D) N he) (P.dist D)
theorem next_tuple {Q : Option Value → Shared → Prop} (F : Fr h₀ L s.heap m) (N : News h₀ L s.heap news) (D : Dist (news.map (·.1))) (P : RepF I oI news g) (hI : TI ax i oI) (hl : (ax, tupOf vs.toArray n) ∈ news) (hv : At v vs i)
    (h : ∀ h' oI', Fr h₀ L h' m → News h₀ L h' (g oI') → TI ax (i + 1) oI' → Q (some v) { s with heap := h' }) : wpAny (model prog w) A (pyNext (.ref I)) Q E s :=
  wpAny_pyNext_tuple_item ⟨_, (N _ P.mem).1, hI⟩ ⟨_, (N _ hl).1, rfl, _, rfl⟩ hv.get fun h' ⟨oI', hg, hI'⟩ hs => h h' oI' (fr_at P.mem F N hs) (news_rep P D N hs hg) hI'
theorem next_tuple_end {Q : Option Value → Shared → Prop} (hh : A.handled = none) (F : Fr h₀ L s.heap m) (N : News h₀ L s.heap news) (D : Dist (news.map (·.1))) (P : Tak I oI news rest) (hI : TI ax i oI) (hl : (ax, tupOf its n) ∈ news) (hv : its[i]? = none)
    (h : ∀ h', Fr h₀ L h' m → News h₀ L h' rest → Dist (rest.map (·.1)) → Q none { s with heap := h' }) : wpAny (model prog w) A (pyNext (.ref I)) Q E s :=
  wpAny_pyNext_tuple_end hh ⟨_, (N _ P.mem).1, hI⟩ ⟨_, (N _ hl).1, rfl, _, rfl⟩ hv fun h' he => h h' (fr_ext P.mem F N he) (news_ext (P.pick D) N he) (P.dist D)
theorem next_range {Q : Option Value → Shared → Prop} {x k : Int} (F : Fr h₀ L s.heap m) (N : News h₀ L s.heap news) (D : Dist (news.map (·.1))) (P : RepF I (itR x k) news g) (hk : 0 < k)
    (h : ∀ h' t, Fr h₀ L h' m → News h₀ L h' (g (itR (x + 1) (k - 1))) → Q (some (.int x t)) { s with heap := h', toks := s.toks + 1 }) : wpAny (model prog w) A (pyNext (.ref I)) Q E s :=
  wpAny_pyNext_range_item (N _ P.mem).1 hk fun h' hg hs => h h' _ (fr_at P.mem F N hs) (news_rep P D N hs hg)
theorem next_range_end {Q : Option Value → Shared → Prop} {x k : Int} (hh : A.handled = none) (F : Fr h₀ L s.heap m) (N : News h₀ L s.heap news) (D : Dist (news.map (·.1))) (P : Tak I (itR x k) news rest) (hk : k ≤ 0)
    (h : ∀ h', Fr h₀ L h' m → News h₀ L h' rest → Dist (rest.map (·.1)) → Q none { s with heap := h' }) : wpAny (model prog w) A (pyNext (.ref I)) Q E s :=
  wpAny_pyNext_range_end hh (N _ P.mem).1 hk fun h' he => h h' (fr_ext P.mem F N he) (news_ext (P.pick D) N he) (P.dist D)
end

section
variable {prog : Program} {w : World} {A : Around} {R : Result → Shared → Prop} {s : Shared}
/-- one turn of a for -/
theorem for_step {target : Expr} {it : Value} {body : List Stmt} {env : Env}
    (h : wpAny (model prog w) A (pyNext it) (fun r s₁ => match r with
      | none => R (.ok .next) s₁
      | some v => wpAny (model prog w) A (letOwnedTupleGo target it v) (fun _ s₁' => wpAny (model prog w) A (assign target env v) (fun _ s₂ => wpAny (model prog w) A (execs body env) (fun f s₃ => match f with
          | .next | .cont => codeAny (model prog w) A (.forLoop target it body [] env) R s₃
          | .brk => R (.ok .next) s₃
          | .ret v => R (.ok (.ret v)) s₃) NoE s₂) NoE s₁') NoE s₁) NoE s) : codeAny (model prog w) A (.forLoop target it body [] env) R s := by
  refine codeAny_of_tree ?_
  show wpAny _ A ((forTurn target it body [] env).onRaise (fun x => do noteFrame x env; theTreesLotGoes x)) _ _ s
  refine wpAny_noted (noE ?_)
  simp only [forTurn]
  refine wpAny_bind (wpAny_standAt (wpAny_bind (wpAny_onRaise (wpAny_mono h (fun r s₁ h₁ => ?_) fun _ _ f => f.elim))))
  cases r with
  | none => exact wpAny_pure ⟨rfl, codeAny_block (wpAny_execs_nil h₁)⟩
  | some v =>
    refine wpAny_bind (wpAny_mono h₁ (fun _ s₁' h₁' => ?_) fun _ _ h' => h')
    refine wpAny_bind (wpAny_mono h₁' (fun _ s₂ h₂ => wpAny_bind (wpAny_mono h₂ (fun f s₃ h₃ => ?_) fun _ _ h' => h')) fun _ _ h' => h')
    cases f with
    | next => exact wpAny_pure ⟨rfl, h₃⟩
    | cont => exact wpAny_pure ⟨rfl, h₃⟩
    | brk => exact wpAny_pure h₃
    | ret v => exact wpAny_pure h₃

/-- a for, from its head: what is iterated, then its turns -/
theorem for_in {E : Value → Shared → Prop} {Q : Flow → Shared → Prop} {target iter : Expr} {body : List Stmt} {env : Env} {pos : Pos}
    (h : wpAny (model prog w) A (eval iter env) (fun x s₁ => wpAny (model prog w) A (pyIter x) (fun it s₂ =>
      codeAny (model prog w) A (.forLoop target it body [] env) (fun r s' => match r with | .ok f => Q f s' | .error _ => False) s₂) NoE s₁) NoE s)
    (hs : ∀ x, foldedSetIterable iter env x = pure x := by intro _; rfl) : wpAny (model prog w) A (exec (.For target iter body [] pos) env) Q E s :=
  noE (wpAny_For (wpAny_mono h (fun _ _ h₁ => wpAny_mono h₁ (fun _ _ h₂ => codeAny_mono h₂ fun r _ hr => by
    cases r with
    | ok f => exact hr
    | error e => exact hr.elim) fun _ _ f => f) fun _ _ f => f) hs)
end

section
variable {prog : Program} {w : World} {A : Around} {R : Result → Shared → Prop} {s : Shared}

/-- one turn of a while -/
theorem while_step {test : Expr} {body : List Stmt} {env : Env}
    (h : wpAny (model prog w) A (isTrue test env (eval test env)) (fun b s₂ =>
        if b = true then wpAny (model prog w) A (execs body env) (fun f s₃ => match f with
            | .next | .cont => codeAny (model prog w) A (.whileLoop test body [] env) R s₃
            | .brk => R (.ok .next) s₃
            | .ret v => R (.ok (.ret v)) s₃) NoE s₂
        else R (.ok .next) s₂) NoE s) : codeAny (model prog w) A (.whileLoop test body [] env) R s := by
  refine codeAny_of_tree ?_
  show wpAny _ A ((whileTurn test body [] env).onRaise (fun x => do noteFrame x env; theTreesLotGoes x)) _ _ s
  refine wpAny_noted (noE ?_)
  simp only [whileTurn]
  refine wpAny_bind (wpAny_mono h (fun b s₂ h₂ => ?_) fun _ _ f => f)
  cases b with
  | false =>
    simp only [Bool.false_eq_true, if_false] at h₂ ⊢
    exact wpAny_bind (wpAny_execs_nil (wpAny_pure h₂))
  | true =>
    simp only [if_true] at h₂ ⊢
    refine wpAny_bind (wpAny_mono h₂ (fun f s₃ h₃ => ?_) fun _ _ h' => h')
    cases f with
    | next => exact wpAny_pure ⟨rfl, h₃⟩
    | cont => exact wpAny_pure ⟨rfl, h₃⟩
    | brk => exact wpAny_pure h₃
    | ret v => exact wpAny_pure h₃
theorem while_in {E : Value → Shared → Prop} {Q : Flow → Shared → Prop} {test : Expr} {body : List Stmt} {env : Env} {pos : Pos}
    (h : codeAny (model prog w) A (.whileLoop test body [] env) (fun r s' => match r with | .ok f => Q f s' | .error _ => False) s) : wpAny (model prog w) A (exec (.While test body [] pos) env) Q E s :=
  wpAny_While (codeAny_mono h fun r _ hr => by
    cases r with
    | ok f => exact hr
    | error e => exact hr.elim)

/-- one turn of a comprehension of one clause without a test -/
theorem comp_step {elt target iter : Expr} {scope : Scope} {pos : Pos} {it acc : Value} {env : Env}
    (h : wpAny (model prog w) A (pyNext it) (fun r s₁ => match r with
      | none => R (.ok .next) s₁
      | some v => wpAny (model prog w) A (letOwnedTupleGo target it v) (fun _ s₁' => wpAny (model prog w) A (assign target env v) (fun _ s₂ => wpAny (model prog w) A (eval elt env) (fun x s₄ =>
          wpAny (model prog w) A (call (.builtin "list.append") [acc, x]) (fun _ s₅ => codeAny (model prog w) A (.compLoop (.ListComp elt [⟨target, iter, [], 0⟩] scope pos) 0 it acc env) R s₅) NoE s₄) NoE s₂) NoE s₁') NoE s₁) NoE s) :
    codeAny (model prog w) A (.compLoop (.ListComp elt [⟨target, iter, [], 0⟩] scope pos) 0 it acc env) R s := by
  refine codeAny_of_tree ?_
  show wpAny _ A ((compTurn (.ListComp elt [⟨target, iter, [], 0⟩] scope pos) 0 it acc env).onRaise (fun x => do noteFrame x env; theTreesLotGoes x)) _ _ s
  refine wpAny_noted (noE ?_)
  rw [compTurn_list]
  refine wpAny_bind (wpAny_standAt (wpAny_bind (wpAny_mono h (fun r s₁ h₁ => ?_) fun _ _ f => f)))
  cases r with
  | none => exact wpAny_pure h₁
  | some v =>
    refine wpAny_bind (wpAny_mono h₁ (fun _ s₁' h₁' => ?_) fun _ _ h' => h')
    refine wpAny_bind (wpAny_mono h₁' (fun _ s₂ h₂ => ?_) fun _ _ h' => h')
    refine wpAny_bind (wpAny_tests_nil ?_)
    simp only [if_true]
    exact wpAny_bind (wpAny_bind (wpAny_mono h₂ (fun x s₄ h₄ => wpAny_bind (wpAny_mono h₄ (fun _ s₅ h₅ => wpAny_pure (wpAny_pure ⟨rfl, h₅⟩)) fun _ _ h' => h')) fun _ _ h' => h'))
/-- one turn of a comprehension of one clause with one test -/
theorem comp_stepT {elt target iter c : Expr} {scope : Scope} {pos : Pos} {it acc : Value} {env : Env}
    (h : wpAny (model prog w) A (pyNext it) (fun r s₁ => match r with
      | none => R (.ok .next) s₁
      | some v => wpAny (model prog w) A (letOwnedTupleGo target it v) (fun _ s₁' => wpAny (model prog w) A (assign target env v) (fun _ s₂ => wpAny (model prog w) A (isTrue c env (eval c env)) (fun ok s₃ =>
          if ok = true then wpAny (model prog w) A (eval elt env) (fun x s₄ =>
            wpAny (model prog w) A (call (.builtin "list.append") [acc, x]) (fun _ s₅ => codeAny (model prog w) A (.compLoop (.ListComp elt [⟨target, iter, [c], 0⟩] scope pos) 0 it acc env) R s₅) NoE s₄) NoE s₃
          else codeAny (model prog w) A (.compLoop (.ListComp elt [⟨target, iter, [c], 0⟩] scope pos) 0 it acc env) R s₃) NoE s₂) NoE s₁') NoE s₁) NoE s) :
    codeAny (model prog w) A (.compLoop (.ListComp elt [⟨target, iter, [c], 0⟩] scope pos) 0 it acc env) R s := by
  refine codeAny_of_tree ?_
  show wpAny _ A ((compTurn (.ListComp elt [⟨target, iter, [c], 0⟩] scope pos) 0 it acc env).onRaise (fun x => do noteFrame x env; theTreesLotGoes x)) _ _ s
  refine wpAny_noted (noE ?_)
  rw [compTurn_list]
  refine wpAny_bind (wpAny_standAt (wpAny_bind (wpAny_mono h (fun r s₁ h₁ => ?_) fun _ _ f => f)))
  cases r with
  | none => exact wpAny_pure h₁
  | some v =>
    refine wpAny_bind (wpAny_mono h₁ (fun _ s₁' h₁' => ?_) fun _ _ h' => h')
    refine wpAny_bind (wpAny_mono h₁' (fun _ s₂ h₂ => ?_) fun _ _ h' => h')
    refine wpAny_bind (wpAny_tests_one (wpAny_mono h₂ (fun ok s₃ h₃ => ?_) fun _ _ h' => h'))
    cases ok with
    | false =>
      simp only [Bool.false_eq_true, if_false] at h₃ ⊢
      exact wpAny_pure ⟨rfl, h₃⟩
    | true =>
      simp only [if_true] at h₃ ⊢
      exact wpAny_bind (wpAny_bind (wpAny_mono h₃ (fun x s₄ h₄ => wpAny_bind (wpAny_mono h₄ (fun _ s₅ h₅ => wpAny_pure (wpAny_pure ⟨rfl, h₅⟩)) fun _ _ h' => h')) fun _ _ h' => h'))
end

/-- the end of a comprehension: its own names let go -/
noncomputable def CompOut (h₀ : Heap) (L C : Addr) (G : Shared → Prop) (s : Shared) : Prop :=
  ∃ news oC m₂ rest m, Fr h₀ L s.heap m ∧ News h₀ L s.heap news ∧ Pick C oC news rest ∧ LCg.NsObj oC m₂ ∧ ∀ h', Fr h₀ L h' m → News h₀ L h' rest → G { s with heap := h' }
theorem CompOut.intro {h₀ : Heap} {L C : Addr} {G : Shared → Prop} {s : Shared} {news rest : List (Addr × Obj)} {oC : Obj} {m₂ m : Str → Option Value} (F : Fr h₀ L s.heap m) (N : News h₀ L s.heap news) (D : Dist (news.map (·.1))) (P : Tak C oC news rest) (hC : LCg.NsObj oC m₂)
    (h : ∀ h', Fr h₀ L h' m → News h₀ L h' rest → Dist (rest.map (·.1)) → G { s with heap := h' }) : CompOut h₀ L C G s := ⟨_, _, _, _, _, F, N, P.pick D, hC, fun h' F' N' => h h' F' N' (P.dist D)⟩
theorem CompOut.out {h₀ : Heap} {L C : Addr} {G : Shared → Prop} {s : Shared} (x : CompOut h₀ L C G s) : ∃ m, s.heap.Ns C m ∧ ∀ h', Heap.SameBut C s.heap h' → G { s with heap := h' } := by
  obtain ⟨news, oC, m₂, rest, m, F, N, P, hC, h⟩ := x
  exact ⟨m₂, hC.ns (N _ P.mem).1, fun h' hs => h h' (fr_at P.mem F N hs) fun p hp => ⟨(hs.2 _ (P.off p hp)).trans (N p (P.sub p hp)).1, (N p (P.sub p hp)).2⟩⟩

section
variable {prog : Program} {w : World} {A : Around} {s : Shared} {h₀ : Heap} {L : Addr} {env : Env}
theorem NsObj_empty (cls : Value) : LCg.NsObj { cls := cls, data := .dict #[] } (fun _ => none) := ⟨#[], 0, rfl, fun _ he => by simp at he, fun _ => rfl⟩

theorem fenv0 {M : Model} {E : Value → Shared → Prop} {scope : Scope} {globals : Addr} {cl : List (Str × Addr)} {qual : Str} {outer : Env} {Q : Env → Shared → Prop} (hcell : ∀ y ∈ scope.names, y.2 ≠ .cell)
    (h : Q (newEnv scope s.heap.objs.size globals cl qual none .none (some outer) builtinsNs) { s with heap := s.heap.push { cls := .type "dict", data := .dict #[] } }) :
    wpAny M A (newFunctionEnv scope globals cl [] qual none .none (some outer)) Q E s := by
  simp only [newFunctionEnv, Option.isSome_some, if_true]
  refine wpAny_bind (wpAny_alloc ?_)
  refine wpAny_bind (wpAny_layCells _ (fun name kind cells => by cases kind == NameKind.cell <;> simp) _ _ _ _ ?_)
  have e1 : ∀ (names : List (Str × NameKind)) (n : Nat), (∀ y ∈ names, y.2 ≠ .cell) → cellsFrom n names cl = cl := by
    intro names
    induction names with
    | nil => intro _ _; rfl
    | cons p r ih =>
      intro n hn
      have : (p.2 == NameKind.cell) = false := by
        have := hn p (List.mem_cons_self ..)
        cases q : (p.2 == NameKind.cell) with
        | false => rfl
        | true => exact absurd (by simpa using q) this
      unfold cellsFrom
      rw [this]
      exact ih n fun y hy => hn y (List.mem_cons_of_mem _ hy)
  have e2 : ∀ (names : List (Str × NameKind)) (g : Heap), (∀ y ∈ names, y.2 ≠ .cell) → pushCells g names = g := by
    intro names
    induction names with
    | nil => intro _ _; rfl
    | cons p r ih =>
      intro g hn
      have : (p.2 == NameKind.cell) = false := by
        have := hn p (List.mem_cons_self ..)
        cases q : (p.2 == NameKind.cell) with
        | false => rfl
        | true => exact absurd (by simpa using q) this
      unfold pushCells
      rw [this]
      exact ih g fun y hy => hn y (List.mem_cons_of_mem _ hy)
  rw [e1 _ _ hcell, e2 _ _ hcell]
  exact wpAny_bind (wpAny_pure (wpAny_pure h))
theorem fenv1 {M : Model} {E : Value → Shared → Prop} {scope : Scope} {x : Str} {globals : Addr} {cl : List (Str × Addr)} {qual : Str} {outer : Env} {Q : Env → Shared → Prop}
    (hc : ∀ n, cellsFrom n scope.names cl = (x, n) :: cl) (hp : ∀ g, pushCells g scope.names = g.push { cls := .type "cell", data := .cell none })
    (h : Q (newEnv scope s.heap.objs.size globals ((x, s.heap.objs.size + 1) :: cl) qual none .none (some outer) builtinsNs) { s with heap := (s.heap.push { cls := .type "dict", data := .dict #[] }).push { cls := .type "cell", data := .cell none } }) :
    wpAny M A (newFunctionEnv scope globals cl [] qual none .none (some outer)) Q E s := by
  simp only [newFunctionEnv, Option.isSome_some, if_true]
  refine wpAny_bind (wpAny_alloc ?_)
  refine wpAny_bind (wpAny_layCells _ (fun name kind cells => by cases kind == NameKind.cell <;> simp) _ _ _ _ ?_)
  rw [hc, hp]
  rw [show ({ s with heap := s.heap.push { cls := .type "dict", data := .dict #[] } } : Shared).heap.objs.size = s.heap.objs.size + 1 from Heap.size_push ..]
  exact wpAny_bind (wpAny_pure (wpAny_pure h))

theorem start_list {elt target iter : Expr} {ifs : List Expr} {gs : List Comprehension} {scope : Scope} {pos : Pos} {I : Addr} {acc : Value} {cenv : Env} {R : Result → Shared → Prop}
    (hself : ∀ (Q : Value → Shared → Prop) (E : Value → Shared → Prop), Q (.ref I) s → wpAny (model prog w) A (pyIter (.ref I)) Q E s)
    (h : codeAny (model prog w) A (.compLoop (.ListComp elt (⟨target, iter, ifs, 0⟩ :: gs) scope pos) 0 (.ref I) acc cenv) R s) :
    codeAny (model prog w) A (.compStart (.ListComp elt (⟨target, iter, ifs, 0⟩ :: gs) scope pos) 0 (.ref I) acc cenv) R s := codeAny_compStart_list h (hself _ _ h)

end

section
variable {prog : Program} {w : World} {A : Around} {E : Value → Shared → Prop} {s : Shared} {h₀ : Heap} {L : Addr} {env : Env} {m : Str → Option Value}
theorem self_LI {I ax : Addr} {i : Nat} {oI : Obj} (hI : LI ax i oI) (s' : Shared) (Q : Value → Shared → Prop) (E : Value → Shared → Prop) (e : s'.heap.get? I = some oI) (h : Q (.ref I) s') : wpAny (model prog w) A (pyIter (.ref I)) Q E s' :=
  wpAny_pyIter_listiter ⟨_, e, hI⟩ h
theorem self_itR {I : Addr} {x k : Int} (s' : Shared) (Q : Value → Shared → Prop) (E : Value → Shared → Prop) (e : s'.heap.get? I = some (itR x k)) (h : Q (.ref I) s') : wpAny (model prog w) A (pyIter (.ref I)) Q E s' :=
  wpAny_pyIter_rangeiter (x := x) (left := k) (step := 1) e h
theorem self_en {I it : Addr} {k : Int} {old : Value} (s' : Shared) (Q : Value → Shared → Prop) (E : Value → Shared → Prop) (e : s'.heap.get? I = some (enOf .none it k old)) (h : Q (.ref I) s') : wpAny (model prog w) A (pyIter (.ref I)) Q E s' :=
  wpAny_pyIter_enum e h

/-- where the iterator stands: the block's names and its list are laid, then its turns -/
theorem CompIn.start {e : Expr} {elt target iter : Expr} {ifs : List Expr} {gs : List Comprehension} {scope : Scope} {pos : Pos} {cl : List (Str × Addr)} {I : Addr} {oI : Obj} {news : List (Addr × Obj)} {RR : Value → Env → Result → Shared → Prop}
    (F : Fr h₀ L s.heap m) (N : News h₀ L s.heap news) (hI : (I, oI) ∈ news) (hcell : ∀ y ∈ scope.names, y.2 ≠ .cell)
    (hself : ∀ (s' : Shared) (Q : Value → Shared → Prop) (E : Value → Shared → Prop), s'.heap.get? I = some oI → Q (.ref I) s' → wpAny (model prog w) A (pyIter (.ref I)) Q E s')
    (he : e = .ListComp elt (⟨target, iter, ifs, 0⟩ :: gs) scope pos)
    (h : ∀ C D oC h, Fr h₀ L h m → LCg.NsObj oC (fun _ => none) → News h₀ L h ((C, oC) :: (D, listOf #[] 0) :: news) → (∀ p ∈ news, p.1 < D) → (∀ p ∈ (D, listOf #[] 0) :: news, p.1 < C) →
      codeAny (model prog w) A (.compLoop e 0 (.ref I) (.ref D) (compEnvC scope cl C env)) (RR (.ref D) (newEnv scope C env.globals cl env.qual none .none (some env) builtinsNs)) { s with heap := h }) :
    wpAny (model prog w) A (newList []) (fun acc s₃ => wpAny (model prog w) A (newFunctionEnv scope env.globals cl [] env.qual none .none (some env)) (fun cenv s₄ =>
      codeAny (model prog w) A (.compStart e 0 (.ref I) acc { cenv with scope := relabel scope env }) (RR acc cenv) s₄) E s₃) E s := by
  subst he
  refine wpAny_newObj_type (fenv0 hcell ?_)
  have F1 := F.push { cls := .type "list", dict := none, data := .seq ([] : List Value).toArray }
  have N1 := N.push F { cls := .type "list", dict := none, data := .seq ([] : List Value).toArray }
  have F2 := F1.push { cls := .type "dict", data := .dict #[] }
  have N2 := N1.push F1 { cls := .type "dict", data := .dict #[] }
  have hh := h _ _ _ _ F2 (NsObj_empty _) N2 (fun p hp => Heap.lt_size (N p hp).1) (fun p hp => Heap.lt_size (N1 p hp).1)
  exact start_list (hself _ · · (N2 _ (.tail _ (.tail _ hI))).1 ·) hh
theorem CompInC.start {e : Expr} {elt target iter : Expr} {ifs : List Expr} {gs : List Comprehension} {scope : Scope} {x : Str} {pos : Pos} {cl : List (Str × Addr)} {I : Addr} {oI : Obj} {news : List (Addr × Obj)} {RR : Value → Env → Result → Shared → Prop}
    (F : Fr h₀ L s.heap m) (N : News h₀ L s.heap news) (hI : (I, oI) ∈ news)
    (hc : ∀ n, cellsFrom n scope.names cl = (x, n) :: cl) (hp : ∀ g, pushCells g scope.names = g.push { cls := .type "cell", data := .cell none })
    (hself : ∀ (s' : Shared) (Q : Value → Shared → Prop) (E : Value → Shared → Prop), s'.heap.get? I = some oI → Q (.ref I) s' → wpAny (model prog w) A (pyIter (.ref I)) Q E s')
    (he : e = .ListComp elt (⟨target, iter, ifs, 0⟩ :: gs) scope pos)
    (h : ∀ C D c oC oc h, Fr h₀ L h m → LCg.NsObj oC (fun _ => none) → oc.data = .cell none → News h₀ L h ((c, oc) :: (C, oC) :: (D, listOf #[] 0) :: news) → (∀ p ∈ news, p.1 < D) → (∀ p ∈ (D, listOf #[] 0) :: news, p.1 < C) → (∀ p ∈ (C, oC) :: (D, listOf #[] 0) :: news, p.1 < c) →
      codeAny (model prog w) A (.compLoop e 0 (.ref I) (.ref D) (compEnvC scope ((x, c) :: cl) C env)) (RR (.ref D) (newEnv scope C env.globals ((x, c) :: cl) env.qual none .none (some env) builtinsNs)) { s with heap := h }) :
    wpAny (model prog w) A (newList []) (fun acc s₃ => wpAny (model prog w) A (newFunctionEnv scope env.globals cl [] env.qual none .none (some env)) (fun cenv s₄ =>
      codeAny (model prog w) A (.compStart e 0 (.ref I) acc { cenv with scope := relabel scope env }) (RR acc cenv) s₄) E s₃) E s := by
  subst he
  refine wpAny_newObj_type (fenv1 hc hp ?_)
  have F1 := F.push { cls := .type "list", dict := none, data := .seq ([] : List Value).toArray }
  have N1 := N.push F { cls := .type "list", dict := none, data := .seq ([] : List Value).toArray }
  have F2 := F1.push { cls := .type "dict", data := .dict #[] }
  have N2 := N1.push F1 { cls := .type "dict", data := .dict #[] }
  have F3 := F2.push { cls := .type "cell", data := .cell none }
  have N3 := N2.push F2 { cls := .type "cell", data := .cell none }
  have hz : ((s.heap.push { cls := .type "list", dict := none, data := .seq ([] : List Value).toArray }).push { cls := .type "dict", data := .dict #[] }).objs.size = (s.heap.push { cls := .type "list", dict := none, data := .seq ([] : List Value).toArray }).objs.size + 1 := Heap.size_push ..
  have hh := h _ _ _ _ _ _ F3 (NsObj_empty _) rfl N3 (fun p hp => Heap.lt_size (N p hp).1) (fun p hp => Heap.lt_size (N1 p hp).1) (fun p hp => Heap.lt_size (N2 p hp).1)
  rw [hz] at hh N3
  exact start_list (hself _ · · (N3 _ (.tail _ (.tail _ (.tail _ hI)))).1 ·) hh

/-- a list comprehension, from its head -/
theorem comp_in {elt target iter : Expr} {ifs : List Expr} {gs : List Comprehension} {scope : Scope} {cl : List (Str × Addr)} {pos : Pos} {Q : Value → Shared → Prop} (_F₀ : Fr h₀ L s.heap m)
    (hclos : closureFor scope env = pure cl) (hkind : scope.kind = .function) (hnames : ∀ y ∈ scope.names, y.2 = .local → scope.names.lookup y.1 = some .local)
    (h : wpAny (model prog w) A (eval iter env) (fun x s₁ => wpAny (model prog w) A (pyIter x) (fun it s₂ => wpAny (model prog w) A (newList []) (fun acc s₃ => wpAny (model prog w) A (newFunctionEnv scope env.globals cl [] env.qual none .none (some env)) (fun cenv s₄ =>
      codeAny (model prog w) A (.compStart (.ListComp elt (⟨target, iter, ifs, 0⟩ :: gs) scope pos) 0 it acc { cenv with scope := relabel scope env })
        (fun r s' => match r with | .ok _ => CompOut h₀ L cenv.locals (fun s'' => Q acc s'') s' | .error _ => False) s₄) NoE s₃) NoE s₂) NoE s₁) NoE s)
    (hs : ∀ x, foldedSetIterable iter env x = pure x := by intro _; rfl) :
    wpAny (model prog w) A (eval (.ListComp elt (⟨target, iter, ifs, 0⟩ :: gs) scope pos) env) Q E s := by
  rw [eval_ListComp]
  refine noE (wpAny_comprehension_free (use := none) rfl hs hclos hkind hnames (wpAny_mono h (fun x s₁ h₁ => wpAny_mono h₁ (fun it s₂ h₂ => wpAny_mono h₂ (fun acc s₃ h₃ => wpAny_mono h₃ (fun cenv s₄ h₄ => codeAny_mono h₄ fun r s' hr => ?_)
    fun _ _ f => f) fun _ _ f => f) fun _ _ f => f) fun _ _ f => f))
  cases r with
  | ok f => exact hr.out
  | error e => exact hr.elim
/-- the same, its list bound to a name of the frame's -/
theorem comp_inA {elt target iter : Expr} {ifs : List Expr} {gs : List Comprehension} {scope : Scope} {cl : List (Str × Addr)} {pos spos py : Pos} {y : Str} {Q : Flow → Shared → Prop} (_F₀ : Fr h₀ L s.heap m)
    (hsw : swapsWith (.ListComp elt (⟨target, iter, ifs, 0⟩ :: gs) scope pos) (some (.Name y py)) spos.line env = pure true)
    (hclos : closureFor scope env = pure cl) (hkind : scope.kind = .function) (hnames : ∀ y ∈ scope.names, y.2 = .local → scope.names.lookup y.1 = some .local)
    (h : wpAny (model prog w) A (eval iter env) (fun x s₁ => wpAny (model prog w) A (pyIter x) (fun it s₂ => wpAny (model prog w) A (newList []) (fun acc s₃ => wpAny (model prog w) A (newFunctionEnv scope env.globals cl [] env.qual none .none (some env)) (fun cenv s₄ =>
      codeAny (model prog w) A (.compStart (.ListComp elt (⟨target, iter, ifs, 0⟩ :: gs) scope pos) 0 it acc { cenv with scope := relabel scope env })
        (fun r s' => match r with | .ok _ => wpAny (model prog w) A (assign (.Name y py) env acc) (fun _ s'' => CompOut h₀ L cenv.locals (fun s₃ => Q .next s₃) s'') NoE s' | .error _ => False) s₄) NoE s₃) NoE s₂) NoE s₁) NoE s)
    (hs : ∀ x, foldedSetIterable iter env x = pure x := by intro _; rfl) :
    wpAny (model prog w) A (exec (.Assign [.Name y py] (.ListComp elt (⟨target, iter, ifs, 0⟩ :: gs) scope pos) spos) env) Q E s := by
  rw [exec_Assign_Name_used _ _ _ _ hsw]
  refine wpAny_bind (wpAny_standAt (wpAny_bind (noE ?_)))
  show wpAny _ A (do let _ ← comprehension (.ListComp elt (⟨target, iter, ifs, 0⟩ :: gs) scope pos) scope env (firstIterPos (⟨target, iter, ifs, 0⟩ :: gs) pos) (newList []) false (eval iter env) (some (assign (.Name y py) env))) _ _ s
  refine wpAny_bind (wpAny_mono (wpAny_comprehension_free (use := some (assign (.Name y py) env)) (Q := fun _ s' => Q .next s') rfl hs hclos hkind hnames
    (wpAny_mono h (fun x s₁ h₁ => wpAny_mono h₁ (fun it s₂ h₂ => wpAny_mono h₂ (fun acc s₃ h₃ => wpAny_mono h₃ (fun cenv s₄ h₄ => codeAny_mono h₄ fun r s' hr => ?_)
    fun _ _ f => f) fun _ _ f => f) fun _ _ f => f) fun _ _ f => f)) (fun _ s' hq => wpAny_pure (wpAny_pure hq)) fun _ _ f => f)
  cases r with
  | ok f => exact noE (wpAny_mono hr (fun _ s'' z => z.out) fun _ _ f => f)
  | error e => exact hr.elim
end
section
variable {prog : Program} {w : World} {M : Model} {A : Around} {E : Value → Shared → Prop} {s : Shared} {h₀ : Heap} {L C c : Addr} {env : Env} {m m₂ : Str → Option Value} {oC oc : Obj} {news rest : List (Addr × Obj)} {g : Obj → List (Addr × Obj)} {scope : Scope} {cl : List (Str × Addr)} {x : Str} {v : Value} {v₀ : Option Value}

theorem store_own {Q : Unit → Shared → Prop} (F : Fr h₀ L s.heap m) (N : News h₀ L s.heap news) (D : Dist (news.map (·.1))) (P : RepF C oC news g) (hC : LCg.NsObj oC m₂)
    (hl : (compEnvC scope cl C env).kindOf x = some .local)
    (h : ∀ h' oC', Fr h₀ L h' m → News h₀ L h' (g oC') → LCg.NsObj oC' (fun y => if y = x then some v else m₂ y) → Q () { s with heap := h', toks := s.toks + 1 })
    (hk : ((compEnvC scope cl C env).scope.kind == .class || ((compEnvC scope cl C env).scope.kind == .module && (compEnvC scope cl C env).locals != (compEnvC scope cl C env).globals)) = false) :
    wpAny M A (storeName (compEnvC scope cl C env) x v) Q E s :=
  wpAny_storeName_local hl (hC.ns (N _ P.mem).1) (fun h' hn hs => by
    obtain ⟨oC', e, hC'⟩ := LCg.ns_obj hn
    exact h h' oC' (fr_at P.mem F N hs) (news_rep P D N hs e) hC') hk
theorem store_cell {Q : Unit → Shared → Prop} (F : Fr h₀ L s.heap m) (N : News h₀ L s.heap news) (hc : cl.lookup x = some c) (D : Dist (news.map (·.1))) (P : RepF c oc news g) (hd : oc.data = .cell v₀)
    (hl : (compEnvC scope cl C env).kindOf x = some .cell)
    (h : ∀ h' oc', Fr h₀ L h' m → News h₀ L h' (g oc') → oc'.data = .cell (some v) → Q () { s with heap := h' })
    (hk : (compEnvC scope cl C env).scope.kind = .function) : wpAny M A (storeName (compEnvC scope cl C env) x v) Q E s :=
  wpAny_storeName_cell (c := c) hk hl hc ⟨oc, (N _ P.mem).1, hd⟩ fun h' ⟨oc', e, hd'⟩ hs => h h' oc' (fr_at P.mem F N hs) (news_rep P D N hs e) hd'

theorem ld_comp {pos : Pos} {Q : Value → Shared → Prop} (N : News h₀ L s.heap news) (hC : LCg.NsObj oC m₂) (P : (C, oC) ∈ news) (hx : m₂ x = some v) (h : Q v s)
    (hk : (compEnvC scope cl C env).scope.kind = .function) (hl : (compEnvC scope cl C env).kindOf x = some .local) (hd : (x == ("__debug__" : Str)) = false := by decide) :
    wpAny M A (eval (.Name x pos) (compEnvC scope cl C env)) Q E s := ldVarK (hC.ns (N _ P).1) hx h hk hl hd
theorem item_tup {value slice : PySem.Expr} {l : Addr} {vs : List Value} {n : Nat} {k : Int} {u : Tok} {Q : Value → Shared → Prop} (N : News h₀ L s.heap news) (hm : (l, tupOf vs.toArray n) ∈ news)
    (h0 : 0 ≤ k) (hhi : k < 2 ^ 63) (hv : At v vs k.toNat) (h : Q v s) (hs : subscripted slice false (.ref l) (.int k u) = operate [.ref l, .int k u] (getItem (.ref l) (.int k u))) :
    wpAny (model prog w) A (subscriptTail value slice (.ref l) (.int k u)) Q E s := 
  have hx : vs[k.toNat]? = some v := by have := hv.get; rwa [List.getElem?_toArray] at this
  have hlt : k.toNat < vs.length := (List.getElem?_eq_some_iff.mp hx).1
  item_tupleT (j := k.toNat) ⟨_, (N _ hm).1, rfl, _, rfl⟩ (Int.le_trans (by decide) h0) hhi (by unfold seqIndex?; simp; omega) hx h hs
theorem next_enum {Q : Option Value → Shared → Prop} {e it l : Addr} {i n : Nat} {old y : Value} {oI : Obj} {vs : List Value} {r1 r2 : List (Addr × Obj)} (F : Fr h₀ L s.heap m) (N : News h₀ L s.heap news) (D : Dist (news.map (·.1)))
    (T1 : Tak e (enOf .none it (i : Int) old) news r1) (T2 : Tak it oI r1 r2) (hI : LI l i oI) (hl : (l, listOf vs.toArray n) ∈ r2) (hv : At y vs i)
    (h : ∀ T t h' oI', Fr h₀ L h' m → News h₀ L h' ((T, { cls := .type "tuple", data := .seq #[.int (i : Int) t, y] }) :: (e, enOf (rawInt T) it ((i : Int) + 1) y) :: (it, oI') :: r2) → Dist (T :: e :: it :: r2.map (·.1)) → LI l (i + 1) oI' → Q (some (.ref T)) { s with heap := h', toks := s.toks + 1 }) :
    wpAny (model prog w) A (pyNext (.ref e)) Q E s := by
  have P := T1.pick D
  have D1 := T1.dist D
  have P2 := T2.pick D1
  have D2 := T2.dist D1
  have hie : it ≠ e := P.off _ P2.mem
  have m2 := P.sub _ P2.mem
  refine wpAny_pyNext_enum_item (N _ P.mem).1 ⟨_, (N _ m2).1, hI⟩ ⟨_, (N _ (P.sub _ (P2.sub _ hl))).1, rfl, _, rfl⟩ hv.get (Ne.symm hie) fun h' he hi ht hz hk => ?_
  obtain ⟨oI', hg, hI'⟩ := hi
  have keep : ∀ b o, b ≠ e → b ≠ it → s.heap.get? b = some o → h'.get? b = some o := hk
  have F' : Fr h₀ L h' m := ⟨F.ns.at' fun _ q => keep _ _ (Ne.symm (N _ P.mem).2.1) (Ne.symm (N _ m2).2.1) q, fun b q z => keep b q (fun k => by rw [k, (N _ P.mem).2.2] at z; cases z) (fun k => by rw [k, (N _ m2).2.2] at z; cases z) (F.keep b q z), F.above⟩
  have hL : L < s.heap.objs.size := F.ns.lt
  refine h s.heap.objs.size s.toks h' oI' F' (fun p hp => ?_) ?_ hI'
  · rcases List.mem_cons.mp hp with rfl | hp
    · exact ⟨ht, Ne.symm (Nat.ne_of_lt hL), fresh_of F (Nat.le_refl _)⟩
    rcases List.mem_cons.mp hp with rfl | hp
    · exact ⟨he, (N _ P.mem).2⟩
    rcases List.mem_cons.mp hp with rfl | hp
    · exact ⟨hg, (N _ m2).2⟩
    · have hp1 := P2.sub p hp
      exact ⟨keep _ _ (P.off p hp1) (P2.off p hp) (N p (P.sub p hp1)).1, (N p (P.sub p hp1)).2⟩
  · have lt : ∀ q ∈ news, q.1 < s.heap.objs.size := fun q hq => Heap.lt_size (N q hq).1
    refine ⟨List.nodup_cons.mpr ⟨fun hm => ?_, List.nodup_cons.mpr ⟨fun hm => ?_, List.nodup_cons.mpr ⟨fun hm => ?_, D2.nd⟩⟩⟩⟩
    · rcases List.mem_cons.mp hm with e1 | hm
      · exact Nat.lt_irrefl _ (e1 ▸ lt _ P.mem)
      rcases List.mem_cons.mp hm with e1 | hm
      · exact Nat.lt_irrefl _ (e1 ▸ lt _ m2)
      · obtain ⟨q, hq, e1⟩ := List.mem_map.mp hm
        exact Nat.lt_irrefl _ (e1 ▸ lt _ (P.sub _ (P2.sub _ hq)))
    · rcases List.mem_cons.mp hm with e1 | hm
      · exact hie e1.symm
      · obtain ⟨q, hq, e1⟩ := List.mem_map.mp hm
        exact P.off _ (P2.sub _ hq) e1
    · obtain ⟨q, hq, e1⟩ := List.mem_map.mp hm
      exact P2.off _ hq e1
theorem next_enum_end {Q : Option Value → Shared → Prop} {e it l : Addr} {i n : Nat} {old : Value} {oI : Obj} {its : Array Value} {r1 r2 : List (Addr × Obj)} (hh : A.handled = none) (F : Fr h₀ L s.heap m) (N : News h₀ L s.heap news) (D : Dist (news.map (·.1)))
    (T1 : Tak e (enOf .none it (i : Int) old) news r1) (T2 : Tak it oI r1 r2) (hI : LI l i oI) (hl : (l, listOf its n) ∈ r2) (hv : its[i]? = none)
    (h : ∀ h', Fr h₀ L h' m → News h₀ L h' r2 → Dist (r2.map (·.1)) → Q none { s with heap := h' }) : wpAny (model prog w) A (pyNext (.ref e)) Q E s := by
  have P := T1.pick D
  have D1 := T1.dist D
  have P2 := T2.pick D1
  have D2 := T2.dist D1
  have m2 := P.sub _ P2.mem
  refine wpAny_pyNext_enum_end hh (N _ P.mem).1 ⟨_, (N _ m2).1, hI⟩ ⟨_, (N _ (P.sub _ (P2.sub _ hl))).1, rfl, _, rfl⟩ hv fun h' he => h h' ?_ (fun p hp => ?_) D2
  · exact fr_ext P2.mem F (news_sub N P.sub) he
  · exact news_ext P2 (news_sub N P.sub) he p hp
theorem letgo_enum {Q : Unit → Shared → Prop} {elts : List Expr} {x1 : Nat} {pos : Pos} {e it T : Addr} {i : Int} {y : Value} (F : Fr h₀ L s.heap m) (N : News h₀ L s.heap news) (D : Dist (news.map (·.1)))
    (P : RepF e (enOf (rawInt T) it i y) news g) (h : ∀ h', Fr h₀ L h' m → News h₀ L h' (g (enOf .none it i y)) → Q () { s with heap := h' }) :
    wpAny (model prog w) A (letOwnedTupleGo (.Tuple elts x1 pos) (.ref e) (.ref T)) Q E s :=
  wpAny_letOwnedTupleGo_enum (N _ P.mem).1 fun h' hg hs => h h' (fr_at P.mem F N hs) (news_rep P D N hs hg)
theorem letgo_name {Q : Unit → Shared → Prop} {px : Pos} {it y : Value} (h : Q () s) : wpAny M A (letOwnedTupleGo (.Name x px) it y) Q E s := wpAny_pure h
theorem call_enum {Q : Value → Shared → Prop} {l : Addr} {its : Array Value} {n : Nat} (F : Fr h₀ L s.heap m) (N : News h₀ L s.heap news) (hl : (l, listOf its n) ∈ news)
    (h : ∀ e it oI h', Fr h₀ L h' m → News h₀ L h' ((e, enOf .none it 0 .none) :: (it, oI) :: news) → LI l 0 oI → (∀ p ∈ news, p.1 < it) → (∀ p ∈ (it, oI) :: news, p.1 < e) → Q (.ref e) { s with heap := h' }) :
    wpAny (model prog w) A (call (.type "enumerate") [.ref l]) Q E s := by
  refine call_enumerate_list ⟨_, (N _ hl).1, rfl, _, rfl⟩ fun h' he hi hz hk => ?_
  obtain ⟨oI, hg, hI⟩ := hi
  have hL : L < s.heap.objs.size := F.ns.lt
  refine h _ _ oI h' (F.keeps hk) (fun p hp => ?_) hI (fun p hp => Heap.lt_size (N p hp).1) (List.forall_mem_cons.mpr ⟨Nat.lt_succ_self _, fun p hp => Nat.lt_succ_of_lt (Heap.lt_size (N p hp).1)⟩)
  rcases List.mem_cons.mp hp with rfl | hp
  · exact ⟨he, Ne.symm (Nat.ne_of_lt (Nat.lt_succ_of_lt hL)), fresh_of F (Nat.le_succ _)⟩
  rcases List.mem_cons.mp hp with rfl | hp
  · exact ⟨hg, Ne.symm (Nat.ne_of_lt hL), fresh_of F (Nat.le_refl _)⟩
  · exact ⟨hk _ _ (N p hp).1, (N p hp).2⟩

/-- the cells of a new frame stand apart -/
theorem cells_from : ∀ (names : List (Str × NameKind)) (n lo : Nat) (acc : List (Str × Addr)), lo < n → (acc.map (·.2)).Nodup → (∀ p ∈ acc, lo < p.2 ∧ p.2 < n) →
    ((cellsFrom n names acc).map (·.2)).Nodup ∧ ∀ p ∈ cellsFrom n names acc, lo < p.2
  | [], n, lo, acc, _, h1, h2 => ⟨h1, fun p hp => (h2 p hp).1⟩
  | (x, k) :: r, n, lo, acc, h0, h1, h2 => by
    unfold cellsFrom
    split
    · refine cells_from r (n + 1) lo ((x, n) :: acc) (Nat.lt_succ_of_lt h0) ?_ ?_
      · refine List.nodup_cons.mpr ⟨fun hm => ?_, h1⟩
        obtain ⟨q, hq, e⟩ := List.mem_map.mp hm
        exact Nat.lt_irrefl _ (e ▸ (h2 q hq).2)
      · intro p hp
        rcases List.mem_cons.mp hp with rfl | hp
        · exact ⟨h0, Nat.lt_succ_self _⟩
        · exact ⟨(h2 p hp).1, Nat.lt_succ_of_lt (h2 p hp).2⟩
    · exact cells_from r n lo acc h0 h1 h2
theorem cells_adr {cm : Str → Option Value} : ∀ {cs : List (Str × Addr)} {cells : List (Addr × Obj)}, CellsAre cm cs cells → cells.map (·.1) = cs.map (·.2)
  | [], _, h => by cases h; rfl
  | (_, _) :: _, _, h => by
    cases h with
    | cons _ r => show _ :: _ = _ :: _; rw [cells_adr r]
theorem Dist.cells {cm : Str → Option Value} {names : List (Str × NameKind)} {L' : Nat} {cells news : List (Addr × Obj)} (Y : CellsAre cm (cellsFrom (L' + 1) names []) cells) (D : Dist (news.map (·.1))) (l1 : ∀ p ∈ news, p.1 < L') :
    Dist ((cells ++ news).map (·.1)) := by
  have z := cells_from names (L' + 1) L' [] (Nat.lt_succ_self _) List.nodup_nil (fun _ h => (nomatch h))
  refine ⟨?_⟩
  rw [List.map_append, cells_adr Y]
  refine List.nodup_append.mpr ⟨z.1, D.nd, fun a ha b hb e => ?_⟩
  subst e
  obtain ⟨q, hq, e⟩ := List.mem_map.mp ha
  obtain ⟨p, hp, e'⟩ := List.mem_map.mp hb
  have h1 := z.2 q hq
  have h2 := l1 p hp
  rw [e] at h1
  rw [e'] at h2
  exact Nat.lt_irrefl _ (Nat.lt_trans h1 h2)
end
end Mine
open_top hd for PySem.Challenge.rw_tk0015_01
namespace Mine
open PySem.Spec PySem.Calls
abbrev prog : Program := PySem.Challenge.pw_tk0015_01

/-- an int of at most 64 bits -/
abbrev Sm (x : Int) : Prop := Builtin.Int.intBits x ≤ 64
theorem ff_tt {P : Prop} (h : false = true) : P := Bool.noConfusion h
theorem nn_ss {α : Type} {x : α} {P : Prop} (h : none = some x) : P := nomatch h
/-- values, without addresses and tokens: a handle for an address -/
inductive AV where
  | int (x : Int) | bool (b : Bool) | nil | ref (k : Nat) | fn (v : Value)
inductive VR (θ : List Addr) : AV → Value → Prop
  | int {x t} : VR θ (.int x) (.int x t)
  | bool {b} : VR θ (.bool b) (.bool b)
  | nil : VR θ .nil .none
  | ref {k a} : θ[k]? = some a → VR θ (.ref k) (.ref a)
  | fn {v} : VR θ (.fn v) v
inductive A2 {α β : Type} (R : α → β → Prop) : List α → List β → Prop
  | nil : A2 R [] []
  | cons {a b as bs} : R a b → A2 R as bs → A2 R (a :: as) (b :: bs)
inductive AO where
  | lst (vs : List AV) | tup (vs : List AV) | li (k i : Nat) | ti (k i : Nat) | ri (x n : Int) | en (k i : Nat) | cell (v : Option AV) | ns (l : List (Str × AV)) | gone | acell | il (ns : List Int)
noncomputable def LocR (θ : List Addr) (l : List (Str × AV)) (m : Str → Option Value) : Prop := ∀ x v, l.lookup x = some v → ∃ c, m x = some c ∧ VR θ v c
inductive OR (θ : List Addr) : AO → Option Obj → Prop
  | lst {vs cs n} : A2 (VR θ) vs cs → OR θ (.lst vs) (some (listOf cs.toArray n))
  | tup {vs cs n} : A2 (VR θ) vs cs → OR θ (.tup vs) (some (tupOf cs.toArray n))
  | li {k i a o} : θ[k]? = some a → LI a i o → OR θ (.li k i) (some o)
  | ti {k i a o} : θ[k]? = some a → TI a i o → OR θ (.ti k i) (some o)
  | ri {x n} : OR θ (.ri x n) (some (itR x n))
  | en {k i a old} : θ[k]? = some a → OR θ (.en k i) (some (enOf .none a (i : Int) old))
  | cell0 {o} : o.data = .cell none → OR θ (.cell none) (some o)
  | cell1 {o v c} : o.data = .cell (some c) → VR θ v c → OR θ (.cell (some v)) (some o)
  | ns {o m l} : LCg.NsObj o m → LocR θ l m → OR θ (.ns l) (some o)
  | gone : OR θ .gone none
  | acell {o w} : o.data = .cell w → OR θ .acell (some o)
  | il {ns cs n} : IntsAre cs ns → OR θ (.il ns) (some (listOf cs.toArray n))
inductive LstI (θ : List Addr) (vs : List AV) : Option Obj → Prop
  | mk {cs : List Value} {n : Nat} : A2 (VR θ) vs cs → LstI θ vs (some (listOf cs.toArray n))
inductive TupI (θ : List Addr) (vs : List AV) : Option Obj → Prop
  | mk {cs : List Value} {n : Nat} : A2 (VR θ) vs cs → TupI θ vs (some (tupOf cs.toArray n))
inductive LiI (θ : List Addr) (k i : Nat) : Option Obj → Prop
  | mk {a : Addr} {o : Obj} : θ[k]? = some a → LI a i o → LiI θ k i (some o)
inductive RefI (θ : List Addr) (k : Nat) : Value → Prop
  | mk {a : Addr} : θ[k]? = some a → RefI θ k (.ref a)
theorem OR.lstI {θ : List Addr} {vs : List AV} {o : Option Obj} (h : OR θ (.lst vs) o) : LstI θ vs o := by cases h with | lst h => exact .mk h
theorem OR.tupI {θ : List Addr} {vs : List AV} {o : Option Obj} (h : OR θ (.tup vs) o) : TupI θ vs o := by cases h with | tup h => exact .mk h
theorem OR.liI {θ : List Addr} {k i : Nat} {o : Option Obj} (h : OR θ (.li k i) o) : LiI θ k i o := by cases h with | li h h' => exact .mk h h'
theorem VR.refI {θ : List Addr} {k : Nat} {c : Value} (h : VR θ (.ref k) c) : RefI θ k c := by cases h with | ref h => exact .mk h
theorem pre_get {θ θ' : List Addr} (p : θ <+: θ') {k : Nat} {a : Addr} (h : θ[k]? = some a) : θ'[k]? = some a := by
  obtain ⟨r, rfl⟩ := p
  rw [List.getElem?_append_left (List.getElem?_eq_some_iff.mp h).1]; exact h
theorem VR.mono {θ θ' : List Addr} (p : θ <+: θ') {v : AV} {c : Value} (h : VR θ v c) : VR θ' v c := by
  cases h with
  | ref h => exact .ref (pre_get p h)
  | int => exact .int
  | bool => exact .bool
  | nil => exact .nil
  | fn => exact .fn
theorem A2.mono {α β : Type} {R R' : α → β → Prop} (hR : ∀ a b, R a b → R' a b) {as : List α} {bs : List β} (h : A2 R as bs) : A2 R' as bs := by
  induction h with
  | nil => exact .nil
  | cons h _ ih => exact .cons (hR _ _ h) ih
theorem LocR.mono {θ θ' : List Addr} (p : θ <+: θ') {l : List (Str × AV)} {m : Str → Option Value} (h : LocR θ l m) : LocR θ' l m := fun x v e => by
  obtain ⟨c, h1, h2⟩ := h x v e
  exact ⟨c, h1, h2.mono p⟩
theorem OR.mono {θ θ' : List Addr} (p : θ <+: θ') {a : AO} {o : Option Obj} (h : OR θ a o) : OR θ' a o := by
  cases h with
  | lst h => exact .lst (h.mono fun _ _ q => q.mono p)
  | tup h => exact .tup (h.mono fun _ _ q => q.mono p)
  | li h h' => exact .li (pre_get p h) h'
  | ti h h' => exact .ti (pre_get p h) h'
  | ri => exact .ri
  | en h => exact .en (pre_get p h)
  | cell0 h => exact .cell0 h
  | cell1 h h' => exact .cell1 h (h'.mono p)
  | ns h h' => exact .ns h (h'.mono p)
  | gone => exact .gone
  | acell h => exact .acell h
  | il h => exact .il h
theorem A2.len {α β : Type} {R : α → β → Prop} {as : List α} {bs : List β} (h : A2 R as bs) : as.length = bs.length := by
  induction h with
  | nil => rfl
  | cons _ _ ih => simp [ih]
theorem A2.get {α β : Type} {R : α → β → Prop} {as : List α} {bs : List β} (h : A2 R as bs) {k : Nat} {a : α} (e : as[k]? = some a) : ∃ b, bs[k]? = some b ∧ R a b := by
  induction h generalizing k with
  | nil => simp at e
  | cons h _ ih =>
    cases k with
    | zero => simp at e; subst e; exact ⟨_, rfl, h⟩
    | succ k => simp at e; obtain ⟨b, h1, h2⟩ := ih e; exact ⟨b, by simpa using h1, h2⟩
theorem A2.set {α β : Type} {R : α → β → Prop} {as : List α} {bs : List β} (h : A2 R as bs) (k : Nat) {a : α} {b : β} (r : R a b) : A2 R (as.set k a) (bs.set k b) := by
  induction h generalizing k with
  | nil => exact .nil
  | cons h t ih =>
    cases k with
    | zero => exact .cons r t
    | succ k => exact .cons h (ih k)
theorem A2.push {α β : Type} {R : α → β → Prop} {as : List α} {bs : List β} (h : A2 R as bs) {a : α} {b : β} (r : R a b) : A2 R (as ++ [a]) (bs ++ [b]) := by
  induction h with
  | nil => exact .cons r .nil
  | cons h _ ih => exact .cons h ih
/-- the ledger of the handles -/
noncomputable def led : List Addr → List (Option Obj) → List (Addr × Obj)
  | a :: θ, some o :: os => (a, o) :: led θ os
  | _ :: θ, none :: os => led θ os
  | _, _ => []
theorem led_mem : ∀ {θ : List Addr} {os : List (Option Obj)} {k : Nat} {a : Addr} {o : Obj}, θ[k]? = some a → os[k]? = some (some o) → (a, o) ∈ led θ os
  | [], _, k, _, _, h, _ => by simp at h
  | _ :: _, [], k, _, _, _, h => by simp at h
  | b :: θ, x :: os, 0, a, o, h1, h2 => by
    simp at h1 h2; subst h1 h2; exact List.mem_cons_self ..
  | b :: θ, x :: os, k + 1, a, o, h1, h2 => by
    have ih := led_mem (θ := θ) (os := os) (k := k) (by simpa using h1) (by simpa using h2)
    cases x with
    | none => exact ih
    | some y => exact List.mem_cons_of_mem _ ih
theorem led_rep : ∀ {θ : List Addr} {os : List (Option Obj)} {k : Nat} {a : Addr} {o : Obj} {r : List (Addr × Obj)}, θ[k]? = some a → os[k]? = some (some o) → RepF a o (led θ os ++ r) fun o' => led θ (os.set k (some o')) ++ r
  | [], _, k, _, _, _, h, _ => by simp at h
  | _ :: _, [], k, _, _, _, _, h => by simp at h
  | b :: θ, x :: os, 0, a, o, r, h1, h2 => by
    simp at h1 h2; subst h1 h2; exact RepF.head
  | b :: θ, x :: os, k + 1, a, o, r, h1, h2 => by
    have ih := led_rep (θ := θ) (os := os) (k := k) (r := r) (by simpa using h1) (by simpa using h2)
    cases x with
    | none => exact ih
    | some y => exact RepF.tail ih
theorem led_tak : ∀ {θ : List Addr} {os : List (Option Obj)} {k : Nat} {a : Addr} {o : Obj} {r : List (Addr × Obj)}, θ[k]? = some a → os[k]? = some (some o) → Tak a o (led θ os ++ r) (led θ (os.set k none) ++ r)
  | [], _, k, _, _, _, h, _ => by simp at h
  | _ :: _, [], k, _, _, _, _, h => by simp at h
  | b :: θ, x :: os, 0, a, o, r, h1, h2 => by
    simp at h1 h2; subst h1 h2; exact Tak.head
  | b :: θ, x :: os, k + 1, a, o, r, h1, h2 => by
    have ih := led_tak (θ := θ) (os := os) (k := k) (r := r) (by simpa using h1) (by simpa using h2)
    cases x with
    | none => exact ih
    | some y => exact Tak.tail ih
theorem led_push : ∀ {θ : List Addr} {os : List (Option Obj)} {a : Addr} {o : Obj}, θ.length = os.length → led (θ ++ [a]) (os ++ [some o]) = led θ os ++ [(a, o)]
  | [], [], _, _, _ => rfl
  | _ :: _, [], _, _, h => by simp at h
  | [], _ :: _, _, _, h => by simp at h
  | b :: θ, x :: os, a, o, h => by
    have ih := led_push (θ := θ) (os := os) (a := a) (o := o) (by simpa using h)
    cases x with
    | none => exact ih
    | some y => exact congrArg ((b, y) :: ·) ih
structure AS where
  loc : List (Str × AV)
  hp : List AO
noncomputable def AS.set (S : AS) (x : Str) (v : AV) : AS := ⟨(x, v) :: S.loc, S.hp⟩
noncomputable def AS.put (S : AS) (k : Nat) (o : AO) : AS := ⟨S.loc, S.hp.set k o⟩
noncomputable def AS.new (S : AS) (o : AO) : AS := ⟨S.loc, S.hp ++ [o]⟩
/-- where the run stands -/
inductive Rel (h₀ : Heap) (L : Addr) (rest : List (Addr × Obj)) (S : AS) (θ : List Addr) (h : Heap) : Prop
  | mk (os : List (Option Obj)) (m : Str → Option Value) (F : Fr h₀ L h m) (N : News h₀ L h (led θ os ++ rest)) (D : Dist ((led θ os ++ rest).map (·.1))) (l : θ.length = os.length) (O : A2 (OR θ) S.hp os) (V : LocR θ S.loc m) : Rel h₀ L rest S θ h
theorem Rel.is {h₀ h : Heap} {L : Addr} {rest : List (Addr × Obj)} {S : AS} {θ : List Addr} (R : Rel h₀ L rest S θ h) : Rel h₀ L rest S θ h := R
/-- the same, one object of the heap shown -/
inductive Got (h₀ : Heap) (L : Addr) (rest : List (Addr × Obj)) (S : AS) (θ : List Addr) (h : Heap) (k : Nat) (ao : AO) : Prop
  | mk (os : List (Option Obj)) (m : Str → Option Value) (oo : Option Obj) (F : Fr h₀ L h m) (N : News h₀ L h (led θ os ++ rest)) (D : Dist ((led θ os ++ rest).map (·.1))) (l : θ.length = os.length) (O : A2 (OR θ) S.hp os) (V : LocR θ S.loc m) (e : os[k]? = some oo) (o : OR θ ao oo) (ha : ∃ a, θ[k]? = some a) : Got h₀ L rest S θ h k ao
section
variable {h₀ h h' : Heap} {L : Addr} {rest : List (Addr × Obj)} {S : AS} {θ : List Addr}
/-- an object new on the heap -/
theorem Rel.push {d : Addr} {o : Obj} {os : List (Option Obj)} {m : Str → Option Value} {ao : AO} (F : Fr h₀ L h' m) (N : News h₀ L h' ((d, o) :: (led θ os ++ rest))) (D : Dist ((led θ os ++ rest).map (·.1))) (hd : ∀ p ∈ led θ os ++ rest, p.1 < d)
    (l : θ.length = os.length) (O : A2 (OR θ) S.hp os) (V : LocR θ S.loc m) (ho : OR (θ ++ [d]) ao (some o)) : Rel h₀ L rest (S.new ao) (θ ++ [d]) h' := by
  have p : θ <+: θ ++ [d] := ⟨[d], rfl⟩
  have D' := Dist.push (d := d) D hd
  refine ⟨os ++ [some o], m, F, ?_, ?_, by simp [l], (O.mono fun _ _ q => q.mono p).push ho, V.mono p⟩
  · rw [led_push l]
    intro q hq
    refine N q ?_
    simp only [List.append_assoc, List.cons_append, List.nil_append, List.mem_append, List.mem_cons] at hq ⊢
    rcases hq with h | h | h
    · exact .inr (.inl h)
    · exact .inl h
    · exact .inr (.inr h)
  · rw [led_push l]
    refine ⟨?_⟩
    have e : ((led θ os ++ [(d, o)] ++ rest).map (·.1)).Perm (d :: (led θ os ++ rest).map (·.1)) := by
      simp only [List.map_append, List.map_cons, List.map_nil, List.append_assoc, List.cons_append, List.nil_append]
      exact List.perm_middle
    exact e.nodup_iff.mpr D'.nd
end
theorem Rel.get {k : Nat} {ao : AO} (R : Rel h₀ L rest S θ h) (e : S.hp[k]? = some ao) : Got h₀ L rest S θ h k ao := by
  obtain ⟨os, m, F, N, D, l, O, V⟩ := R.is
  obtain ⟨oo, e1, o1⟩ := O.get e
  have hk : k < os.length := (List.getElem?_eq_some_iff.mp e1).1
  exact ⟨os, m, oo, F, N, D, l, O, V, e1, o1, ⟨θ[k]'(by omega), List.getElem?_eq_some_iff.mpr ⟨by omega, rfl⟩⟩⟩
structure Cx where
  prog : Program
  w : World
  A : Around
  h₀ : Heap
  L : Addr
  rest : List (Addr × Obj)
  θ₀ : List Addr
  hh : A.handled = none
/-- from state S the tree t leads to K, whatever the addresses and tokens are -/
noncomputable def TrG {α β : Type} (X : Cx) (V : List Addr → β → α → Prop) (t : Sem α) (S : AS) (K : β → AS → Prop) : Prop :=
  ∀ θ s E Q, Rel X.h₀ X.L X.rest S θ s.heap → X.θ₀ <+: θ → (∀ b S' θ' h' tk' a, K b S' → Rel X.h₀ X.L X.rest S' θ' h' → θ <+: θ' → V θ' b a → Q a { s with heap := h', toks := tk' }) → wpAny (model X.prog X.w) X.A t Q E s
inductive AF where
  | next | brk | cont | ret (v : AV)
inductive FR (θ : List Addr) : AF → Flow → Prop
  | next : FR θ .next .next
  | brk : FR θ .brk .brk
  | cont : FR θ .cont .cont
  | ret {v c} : VR θ v c → FR θ (.ret v) (.ret c)
abbrev Tr (X : Cx) (t : Sem Value) (S : AS) (K : AV → AS → Prop) : Prop := TrG X VR t S K
abbrev TrB (X : Cx) (t : Sem Bool) (S : AS) (K : Bool → AS → Prop) : Prop := TrG X (fun _ b a => a = b) t S K
abbrev TrL (X : Cx) (t : Sem (List Value)) (S : AS) (K : List AV → AS → Prop) : Prop := TrG X (fun θ => A2 (VR θ)) t S K
abbrev TrF (X : Cx) (t : Sem Flow) (S : AS) (K : AF → AS → Prop) : Prop := TrG X FR t S K
/-- a tree of one, of two values -/
noncomputable def Tr1 {α β : Type} (X : Cx) (V : List Addr → β → α → Prop) (f : Value → Sem α) (a : AV) (S : AS) (K : β → AS → Prop) : Prop :=
  ∀ θ s E Q c, Rel X.h₀ X.L X.rest S θ s.heap → X.θ₀ <+: θ → VR θ a c → (∀ b S' θ' h' tk' a, K b S' → Rel X.h₀ X.L X.rest S' θ' h' → θ <+: θ' → V θ' b a → Q a { s with heap := h', toks := tk' }) → wpAny (model X.prog X.w) X.A (f c) Q E s
noncomputable def Tr2 {α β : Type} (X : Cx) (V : List Addr → β → α → Prop) (f : Value → Value → Sem α) (a b : AV) (S : AS) (K : β → AS → Prop) : Prop :=
  ∀ θ s E Q c d, Rel X.h₀ X.L X.rest S θ s.heap → X.θ₀ <+: θ → VR θ a c → VR θ b d → (∀ b S' θ' h' tk' a, K b S' → Rel X.h₀ X.L X.rest S' θ' h' → θ <+: θ' → V θ' b a → Q a { s with heap := h', toks := tk' }) → wpAny (model X.prog X.w) X.A (f c d) Q E s
noncomputable def TrLs {α β : Type} (X : Cx) (V : List Addr → β → α → Prop) (f : List Value → Sem α) (as : List AV) (S : AS) (K : β → AS → Prop) : Prop :=
  ∀ θ s E Q cs, Rel X.h₀ X.L X.rest S θ s.heap → X.θ₀ <+: θ → A2 (VR θ) as cs → (∀ b S' θ' h' tk' a, K b S' → Rel X.h₀ X.L X.rest S' θ' h' → θ <+: θ' → V θ' b a → Q a { s with heap := h', toks := tk' }) → wpAny (model X.prog X.w) X.A (f cs) Q E s
section
variable {X : Cx} {S : AS} {env : Env} {K : AV → AS → Prop}
theorem T_bin {l r : Expr} {op : Operator} {pos : Pos} (h : Tr X (eval l env) S fun a S1 => Tr X (eval r env) S1 fun b S2 => Tr2 X VR (binaryOp op) a b S2 K) : Tr X (eval (.BinOp l op r pos) env) S K :=
  fun θ s E Q R p k => wpAny_BinOp (h θ s E _ R p fun a S1 θ1 h1 tk1 ca kA R1 p1 va => kA θ1 _ E _ R1 (p.trans p1) fun b S2 θ2 h2 tk2 cb kB R2 p2 vb =>
    kB θ2 _ E Q ca cb R2 ((p.trans p1).trans p2) (va.mono p2) vb fun b S' θ' h' tk' a kb R' p' v => k b S' θ' h' tk' a kb R' ((p1.trans p2).trans p') v)
theorem T_cmp {l r : Expr} {op : CmpOp} {pos : Pos} (h : Tr X (eval l env) S fun a S1 => Tr X (eval r env) S1 fun b S2 => Tr2 X VR (compareOp op) a b S2 K) (hm : behindInMarks op r = false := by with_unfolding_all rfl) : Tr X (eval (.Compare l [op] [r] pos) env) S K :=
  fun θ s E Q R p k => wpAny_Compare1 (h θ s E _ R p fun a S1 θ1 h1 tk1 ca kA R1 p1 va => kA θ1 _ E _ R1 (p.trans p1) fun b S2 θ2 h2 tk2 cb kB R2 p2 vb =>
    kB θ2 _ E Q ca cb R2 ((p.trans p1).trans p2) (va.mono p2) vb fun b S' θ' h' tk' a kb R' p' v => k b S' θ' h' tk' a kb R' ((p1.trans p2).trans p') v) hm
theorem T_subs {l r : Expr} {pos : Pos} (h : Tr X (eval l env) S fun a S1 => Tr X (eval r env) S1 fun b S2 => Tr2 X VR (subscriptTail l r) a b S2 K) : Tr X (eval (.Subscript l r pos) env) S K :=
  fun θ s E Q R p k => Subscript_ (h θ s E _ R p fun a S1 θ1 h1 tk1 ca kA R1 p1 va => kA θ1 _ E _ R1 (p.trans p1) fun b S2 θ2 h2 tk2 cb kB R2 p2 vb =>
    kB θ2 _ E Q ca cb R2 ((p.trans p1).trans p2) (va.mono p2) vb fun b S' θ' h' tk' a kb R' p' v => k b S' θ' h' tk' a kb R' ((p1.trans p2).trans p') v)
theorem T_un {l : Expr} {op : UnaryOp} {pos : Pos} (h : Tr X (eval l env) S fun a S1 => Tr1 X VR (unaryOp op) a S1 K) : Tr X (eval (.UnaryOp op l pos) env) S K :=
  fun θ s E Q R p k => UnaryOp_ (h θ s E _ R p fun a S1 θ1 h1 tk1 ca kA R1 p1 va => kA θ1 _ E Q ca R1 (p.trans p1) va fun b S' θ' h' tk' a kb R' p' v => k b S' θ' h' tk' a kb R' (p1.trans p') v)
theorem T_int {i : Int} {j : Nat} {pos : Pos} (h : K (.int i) S) : Tr X (eval (.Constant (.int i) j pos) env) S K :=
  fun θ s E Q R p k => wpAny_Constant_int (k _ _ θ s.heap _ _ h R (List.prefix_refl _) .int)
theorem T_none {j : Nat} {pos : Pos} (h : K .nil S) : Tr X (eval (.Constant .none j pos) env) S K :=
  fun θ s E Q R p k => wpAny_Constant_none (k _ _ θ s.heap s.toks _ h R (List.prefix_refl _) .nil)
-- ints
theorem T_add {x y : Int} (h : K (.int (x + y)) S) : Tr2 X VR (binaryOp .Add) (.int x) (.int y) S K := fun θ s E Q c d R p v1 v2 k => by
  cases v1; cases v2; exact add_int (k _ _ θ s.heap _ _ h R (List.prefix_refl _) .int)
theorem T_sub {x y : Int} (h : K (.int (x - y)) S) : Tr2 X VR (binaryOp .Sub) (.int x) (.int y) S K := fun θ s E Q c d R p v1 v2 k => by
  cases v1; cases v2; exact sub_int (k _ _ θ s.heap _ _ h R (List.prefix_refl _) .int)
theorem T_mul {x y : Int} (hm : IntMulOk x y) (h : K (.int (x * y)) S) : Tr2 X VR (binaryOp .Mult) (.int x) (.int y) S K := fun θ s E Q c d R p v1 v2 k => by
  cases v1; cases v2; exact PyProof.Rows.mul_int (k _ _ θ s.heap _ _ h R (List.prefix_refl _) .int) hm
theorem T_fdiv {x y : Int} (hy : y ≠ 0) (hb : Sm y) (h : K (.int (x.fdiv y)) S) : Tr2 X VR (binaryOp .FloorDiv) (.int x) (.int y) S K := fun θ s E Q c d R p v1 v2 k => by
  cases v1; cases v2; exact floordiv_int hy (k _ _ θ s.heap _ _ h R (List.prefix_refl _) .int) (.inl (noPylong_bits hb))
theorem T_mod {x y : Int} (hy : y ≠ 0) (h : K (.int (x.fmod y)) S) : Tr2 X VR (binaryOp .Mod) (.int x) (.int y) S K := fun θ s E Q c d R p v1 v2 k => by
  cases v1; cases v2; exact mod_int' hy (k _ _ θ s.heap _ _ h R (List.prefix_refl _) .int)
theorem T_neg {x : Int} (h : K (.int (-x)) S) : Tr1 X VR (unaryOp .USub) (.int x) S K := fun θ s E Q c R p v1 k => by
  cases v1; exact neg_int (k _ _ θ s.heap _ _ h R (List.prefix_refl _) .int)
theorem T_eq {x y : Int} (h : K (.bool (x == y)) S) : Tr2 X VR (compareOp .Eq) (.int x) (.int y) S K := fun θ s E Q c d R p v1 v2 k => by
  cases v1; cases v2; exact eq_int (k _ _ θ s.heap s.toks _ h R (List.prefix_refl _) .bool)
theorem T_ne {x y : Int} (h : K (.bool (x != y)) S) : Tr2 X VR (compareOp .NotEq) (.int x) (.int y) S K := fun θ s E Q c d R p v1 v2 k => by
  cases v1; cases v2; exact ne_int (k _ _ θ s.heap s.toks _ h R (List.prefix_refl _) .bool)
theorem T_lt {x y : Int} (h : K (.bool (decide (x < y))) S) : Tr2 X VR (compareOp .Lt) (.int x) (.int y) S K := fun θ s E Q c d R p v1 v2 k => by
  cases v1; cases v2; exact lt_int (k _ _ θ s.heap s.toks _ h R (List.prefix_refl _) .bool)
theorem T_gt {x y : Int} (h : K (.bool (decide (y < x))) S) : Tr2 X VR (compareOp .Gt) (.int x) (.int y) S K := fun θ s E Q c d R p v1 v2 k => by
  cases v1; cases v2; exact gt_int (k _ _ θ s.heap s.toks _ h R (List.prefix_refl _) .bool)
theorem T_ge {x y : Int} (h : K (.bool (decide (y ≤ x))) S) : Tr2 X VR (compareOp .GtE) (.int x) (.int y) S K := fun θ s E Q c d R p v1 v2 k => by
  cases v1; cases v2; exact ge_int (k _ _ θ s.heap s.toks _ h R (List.prefix_refl _) .bool)
-- items
theorem T_item {value slice : Expr} {k : Nat} {x : Int} {vs : List AV} {v : AV} (hk : S.hp[k]? = some (.lst vs)) (h0 : 0 ≤ x) (h1 : x < 2 ^ 63) (hv : vs[x.toNat]? = some v) (hs : ∀ l t, subscripted slice false (.ref l) (.int x t) = operate [.ref l, .int x t] (getItem (.ref l) (.int x t))) (h : K v S) :
    Tr2 X VR (subscriptTail value slice) (.ref k) (.int x) S K := fun θ s E Q c d R p v1 v2 kk => by
  cases v2
  obtain ⟨os, m, oo, F, N, D, l, O, V, e1, o1, a, ha⟩ := R.get hk
  cases VR.refI v1 with
  | mk h' =>
    cases OR.lstI o1 with
    | mk hvs =>
      obtain ⟨c, hc, hr⟩ := hvs.get hv
      have hm := led_mem h' e1
      exact tail_any (show s.heap.IsList _ _ from ⟨_, (N _ (List.mem_append_left _ hm)).1, rfl, _, rfl⟩).typeIs slot_list_getitem.lookup
        (wpAny_getItem_list ⟨_, (N _ (List.mem_append_left _ hm)).1, rfl, _, rfl⟩ h0 h1 (by rw [List.getElem?_toArray]; exact hc) (kk _ _ θ s.heap s.toks _ h R (List.prefix_refl _) hr)) (hs _ _)
theorem At_of {v : Value} : ∀ {vs : List Value} {i : Nat}, vs[i]? = some v → At v vs i
  | [], _, h => by simp at h
  | x :: r, 0, h => by simp at h; subst h; exact .zero
  | x :: r, i + 1, h => .succ (At_of (by simpa using h))
theorem T_itemt {value slice : Expr} {k : Nat} {x : Int} {vs : List AV} {v : AV} (hk : S.hp[k]? = some (.tup vs)) (h0 : 0 ≤ x) (h1 : x < 2 ^ 63) (hv : vs[x.toNat]? = some v) (hs : ∀ l t, subscripted slice false (.ref l) (.int x t) = operate [.ref l, .int x t] (getItem (.ref l) (.int x t))) (h : K v S) :
    Tr2 X VR (subscriptTail value slice) (.ref k) (.int x) S K := fun θ s E Q c d R p v1 v2 kk => by
  cases v2
  obtain ⟨os, m, oo, F, N, D, l, O, V, e1, o1, a, ha⟩ := R.get hk
  cases VR.refI v1 with
  | mk h' =>
    cases OR.tupI o1 with
    | mk hvs =>
      obtain ⟨c, hc, hr⟩ := hvs.get hv
      exact item_tup N (List.mem_append_left _ (led_mem h' e1)) h0 h1 (At_of hc) (kk _ _ θ s.heap s.toks _ h R (List.prefix_refl _) hr) (hs _ _)
end
section
variable {X : Cx} {S : AS} {env : Env} {cn : Str} {cs : Scope} {a : Addr} {ccd : Value} {cl : List (Str × Addr)}
/-- what an update of a handle's object leaves -/
theorem Rel.set {h₀ h' : Heap} {L : Addr} {rest : List (Addr × Obj)} {S : AS} {θ : List Addr} {os : List (Option Obj)} {m : Str → Option Value} {k : Nat} {o : Option Obj} {ao : AO} (F : Fr h₀ L h' m) (N : News h₀ L h' (led θ (os.set k o) ++ rest))
    (D : Dist ((led θ (os.set k o) ++ rest).map (·.1))) (l : θ.length = os.length) (O : A2 (OR θ) S.hp os) (V : LocR θ S.loc m) (ho : OR θ ao o) : Rel h₀ L rest (S.put k ao) θ h' :=
  ⟨os.set k o, m, F, N, D, by simp [l], O.set k ho, V⟩
theorem led_rep_map {θ : List Addr} {os : List (Option Obj)} {k : Nat} {a : Addr} {o o' : Obj} {r : List (Addr × Obj)} (h1 : θ[k]? = some a) (h2 : os[k]? = some (some o)) :
    (led θ (os.set k (some o')) ++ r).map (·.1) = (led θ os ++ r).map (·.1) := (led_rep (r := r) h1 h2).map o'
-- names
theorem T_name {K : AV → AS → Prop} {x : Str} {v : AV} {pos : Pos} (hv : S.loc.lookup x = some v) (h : K v S) (hk : cs.kind = .function := by rfl) (hx : (envX cn cs X.L a ccd cl).kindOf x = some .local := by rfl) (hd : (x == ("__debug__" : Str)) = false := by decide) :
    Tr X (eval (.Name x pos) (envX cn cs X.L a ccd cl)) S K := fun θ s E Q R p k => by
  obtain ⟨os, m, F, N, D, l, O, V⟩ := R.is
  obtain ⟨c, h1, h2⟩ := V x v hv
  exact nameX_L F h1 (k _ _ θ s.heap s.toks _ h R (List.prefix_refl _) h2) hk hx hd
theorem T_nameC {K : AV → AS → Prop} {x : Str} {v : AV} {pos : Pos} {c : Addr} {j : Nat} (hc : cl.lookup x = some c) (hθ : X.θ₀[j]? = some c) (hj : S.hp[j]? = some (.cell (some v))) (h : K v S) (hk : cs.kind = .function := by rfl) (hx : (envX cn cs X.L a ccd cl).kindOf x = some .cell := by rfl) (hd : (x == ("__debug__" : Str)) = false := by decide) :
    Tr X (eval (.Name x pos) (envX cn cs X.L a ccd cl)) S K := fun θ s E Q R p k => by
  obtain ⟨os, m, oo, F, N, D, l, O, V, e1, o1, _⟩ := R.get hj
  cases o1 with
  | cell1 e2 hv => exact nameX_C N hc (List.mem_append_left _ (led_mem (pre_get p hθ) e1)) e2 (k _ _ θ s.heap s.toks _ h R (List.prefix_refl _) hv) hk hx hd
/-- a name of the module's or of the interpreter's -/
noncomputable def Glb (X : Cx) (env : Env) (x : Str) (v : Value) : Prop := ∀ (s : Shared) (m : Str → Option Value) (E : Value → Shared → Prop) (Q : Value → Shared → Prop) (pos : Pos), Fr X.h₀ X.L s.heap m → Q v s → wpAny (model X.prog X.w) X.A (eval (.Name x pos) env) Q E s
theorem T_store {K : AS → Prop} {x : Str} {v : AV} (h : K (S.set x v)) (hk : cs.kind = .function := by rfl) (hx : (envX cn cs X.L a ccd cl).kindOf x = some .local := by rfl) :
    Tr1 X (fun _ _ _ => True) (storeName (envX cn cs X.L a ccd cl) x) v S (fun (_ : Unit) S' => K S') := fun θ s E Q c R p v1 k => by
  obtain ⟨os, m, F, N, D, l, O, V⟩ := R.is
  refine storeX_L F N (fun h' F' N' => k () _ θ h' (s.toks + 1) () h ⟨os, _, F', N', D, l, O, ?_⟩ (List.prefix_refl _) trivial) hk hx
  intro y w e
  simp only [AS.set, List.lookup_cons] at e
  by_cases hy : y = x
  · subst hy
    rw [beq_self_eq_true] at e
    cases e
    exact ⟨c, by simp, v1⟩
  · rw [beq_false_of_ne hy] at e
    obtain ⟨c', h1, h2⟩ := V y w e
    exact ⟨c', by simp [hy, h1], h2⟩
theorem T_storeC {K : AS → Prop} {x : Str} {v : AV} {v₀ : Option AV} {c : Addr} {j : Nat} (hc : cl.lookup x = some c) (hθ : X.θ₀[j]? = some c) (hj : S.hp[j]? = some (.cell v₀)) (h : K (S.put j (.cell (some v)))) (hk : cs.kind = .function := by rfl) (hx : (envX cn cs X.L a ccd cl).kindOf x = some .cell := by rfl) :
    Tr1 X (fun _ _ _ => True) (storeName (envX cn cs X.L a ccd cl) x) v S (fun (_ : Unit) S' => K S') := fun θ s E Q cv R p v1 k => by
  obtain ⟨os, m, oo, F, N, D, l, O, V, e1, o1, _⟩ := R.get hj
  have hθ' := pre_get p hθ
  have go : ∀ (o : Obj) (w : Option Value), oo = some o → o.data = .cell w → wpAny (model X.prog X.w) X.A (storeName (envX cn cs X.L a ccd cl) x cv) Q E s := by
    intro o w he hd
    subst he
    have U := (led_rep (r := X.rest) hθ' e1).upd D
    refine storeX_C F N hc U hd (fun h' o' F' N' hd' => k () _ θ h' s.toks () h (Rel.set F' N' ?_ l O V (.cell1 hd' v1)) (List.prefix_refl _) trivial) hk hx
    rw [led_rep_map hθ' e1]; exact D
  cases o1 with
  | cell0 e2 => exact go _ _ rfl e2
  | cell1 e2 hv => exact go _ _ rfl e2
theorem T_storeCA {K : AS → Prop} {x : Str} {v : AV} {c : Addr} {j : Nat} (hc : cl.lookup x = some c) (hθ : X.θ₀[j]? = some c) (hj : S.hp[j]? = some .acell) (h : K (S.put j (.cell (some v)))) (hk : cs.kind = .function := by rfl) (hx : (envX cn cs X.L a ccd cl).kindOf x = some .cell := by rfl) :
    Tr1 X (fun _ _ _ => True) (storeName (envX cn cs X.L a ccd cl) x) v S (fun (_ : Unit) S' => K S') := fun θ s E Q cv R p v1 k => by
  obtain ⟨os, m, oo, F, N, D, l, O, V, e1, o1, _⟩ := R.get hj
  have hθ' := pre_get p hθ
  cases o1 with
  | acell e2 =>
    have U := (led_rep (r := X.rest) hθ' e1).upd D
    refine storeX_C F N hc U e2 (fun h' o' F' N' hd' => k () _ θ h' s.toks () h (Rel.set F' N' ?_ l O V (.cell1 hd' v1)) (List.prefix_refl _) trivial) hk hx
    rw [led_rep_map hθ' e1]; exact D
-- assignments
theorem T_assign {K : AF → AS → Prop} {x : Str} {e : Expr} {pos pos' : Pos} (h : Tr X (eval e env) S fun v S1 => Tr1 X (fun _ _ _ => True) (storeName env x) v S1 (fun (_ : Unit) S2 => K .next S2))
    (hw : swapsWith e (some (.Name x pos')) pos.line env = pure false := by with_unfolding_all rfl) : TrF X (exec (.Assign [.Name x pos'] e pos) env) S K :=
  fun θ s E Q R p k => wpAny_Assign_Name (h θ s E _ R p fun v S1 θ1 h1 tk1 c kS R1 p1 v1 => kS θ1 _ E _ c R1 (p.trans p1) v1 fun _ S2 θ2 h2 tk2 _ k2 R2 p2 _ => k .next S2 θ2 h2 tk2 .next k2 R2 (p1.trans p2) .next) hw
theorem ki_set_some : ∀ {l : List Value} {k : Nat} {v : Value}, k < l.length → ki_setL l k v = some (l.set k v)
  | [], _, _, h => by simp at h
  | _ :: r, 0, v, _ => rfl
  | x :: r, k + 1, v, h => by
    have := ki_set_some (l := r) (k := k) (v := v) (by simpa using h)
    show (match ki_setL r k v with | some q => some (x :: q) | none => none) = _
    rw [this]; rfl
/-- a tree of three values -/
noncomputable def Tr3 (X : Cx) (f : Value → Value → Value → Sem Unit) (a b c : AV) (S : AS) (K : AS → Prop) : Prop :=
  ∀ θ s E Q x y z, Rel X.h₀ X.L X.rest S θ s.heap → X.θ₀ <+: θ → VR θ a x → VR θ b y → VR θ c z → (∀ S' θ' h' tk', K S' → Rel X.h₀ X.L X.rest S' θ' h' → θ <+: θ' → Q () { s with heap := h', toks := tk' }) → wpAny (model X.prog X.w) X.A (f x y z) Q E s
theorem T_assignSub {K : AF → AS → Prop} {o i e : Expr} {pos pos' : Pos} (h : Tr X (eval e env) S fun v S1 => Tr X (eval o env) S1 fun ov S2 => Tr X (eval i env) S2 fun iv S3 => Tr3 X setItem ov iv v S3 fun S4 => K .next S4)
    (hw : swapsWith e (some (.Subscript o i pos')) pos.line env = pure false := by with_unfolding_all rfl) : TrF X (exec (.Assign [.Subscript o i pos'] e pos) env) S K :=
  fun θ s E Q R p k => wpAny_Assign_Subscript (h θ s E _ R p fun v S1 θ1 h1 tk1 c kS R1 p1 v1 => kS θ1 _ E _ R1 (p.trans p1) fun ov S2 θ2 h2 tk2 c2 k2 R2 p2 v2 => k2 θ2 _ E _ R2 ((p.trans p1).trans p2) fun iv S3 θ3 h3 tk3 c3 k3 R3 p3 v3 =>
    k3 θ3 _ E _ c2 c3 c R3 (((p.trans p1).trans p2).trans p3) (v2.mono p3) v3 ((v1.mono p2).mono p3) fun S4 θ4 h4 tk4 k4 R4 p4 => k .next S4 θ4 h4 tk4 .next k4 R4 (((p1.trans p2).trans p3).trans p4) .next) hw
theorem T_kas {K : AS → Prop} {o i : Expr} {pos : Pos} {v : AV} (h : Tr X (eval o env) S fun ov S2 => Tr X (eval i env) S2 fun iv S3 => Tr3 X setItem ov iv v S3 K) : Tr1 X (fun _ _ _ => True) (assign (.Subscript o i pos) env) v S (fun (_ : Unit) S' => K S') :=
  fun θ s E Q c R p v1 k => kas_sub (h θ s E _ R p fun ov S2 θ2 h2 tk2 c2 k2 R2 p2 v2 => k2 θ2 _ E _ R2 (p.trans p2) fun iv S3 θ3 h3 tk3 c3 k3 R3 p3 v3 =>
    k3 θ3 _ E _ c2 c3 c R3 ((p.trans p2).trans p3) (v2.mono p3) v3 ((v1.mono p2).mono p3) fun S4 θ4 h4 tk4 k4 R4 p4 => k () S4 θ4 h4 tk4 () k4 R4 ((p2.trans p3).trans p4) trivial)
theorem T_assignN {K : AS → Prop} {x : Str} {pos : Pos} {v : AV} (h : Tr1 X (fun _ _ _ => True) (storeName env x) v S (fun (_ : Unit) S' => K S')) : Tr1 X (fun _ _ _ => True) (assign (.Name x pos) env) v S (fun (_ : Unit) S' => K S') :=
  fun θ s E Q c R p v1 k => PyProof.Rows.assign_Name (h θ s E Q c R p v1 k)
theorem T_bindN {K : AS → Prop} {x : Str} {v : AV} (h : Tr1 X (fun _ _ _ => True) (storeName env x) v S (fun (_ : Unit) S' => K S')) : Tr1 X (fun _ _ _ => True) (bindName env x) v S (fun (_ : Unit) S' => K S') :=
  fun θ s E Q c R p v1 k => bindName_ (h θ s E Q c R p v1 k)
theorem T_setItem {K : AS → Prop} {k : Nat} {x : Int} {vs : List AV} {v : AV} (hk : S.hp[k]? = some (.lst vs)) (h0 : 0 ≤ x) (h1 : x < 2 ^ 63) (hl : x.toNat < vs.length) (h : K (S.put k (.lst (vs.set x.toNat v)))) : Tr3 X setItem (.ref k) (.int x) v S K :=
  fun θ s E Q cx cy cz R p v1 v2 v3 kk => by
  cases v2
  obtain ⟨os, m, oo, F, N, D, l, O, V, e1, o1, _⟩ := R.get hk
  cases VR.refI v1 with
  | mk hA =>
    cases OR.lstI o1 with
    | mk hvs =>
      rename_i cs n
      have U := (led_rep (r := X.rest) hA e1)
      have hlt : x.toNat < cs.length := by have := hvs.len; omega
      refine ki_set (its := cs.toArray) (n := n) (q := cs.set x.toNat cz) F N h0 h1 (by simpa using ki_set_some hlt) (news' := led θ (os.set k (some (listOf (cs.set x.toNat cz).toArray n))) ++ X.rest) ?_ fun h' F' N' => kk _ θ h' s.toks h (Rel.set F' N' ?_ l O V (.lst (hvs.set _ v3))) (List.prefix_refl _)
      · exact Rep.upd (by
          have : ∀ {θ : List Addr} {os : List (Option Obj)} {k : Nat} {a : Addr} {o o' : Obj} {r : List (Addr × Obj)}, θ[k]? = some a → os[k]? = some (some o) → Rep a o o' (led θ os ++ r) (led θ (os.set k (some o')) ++ r) := by
            intro θ
            induction θ with
            | nil => intro os k a o o' r h _; simp at h
            | cons b θ ih =>
              intro os k a o o' r h1 h2
              cases os with
              | nil => simp at h2
              | cons y os =>
                cases k with
                | zero => simp at h1 h2; subst h1 h2; exact Rep.head
                | succ k =>
                  have z := ih (os := os) (k := k) (o' := o') (r := r) (by simpa using h1) (by simpa using h2)
                  cases y with
                  | none => exact z
                  | some y => exact Rep.tail z
          exact this hA e1) D
      · rw [led_rep_map hA e1]; exact D
-- sequences
theorem TL_nil {K : List AV → AS → Prop} {pos : Pos} (h : K [] S) : TrL X (spliced (backTo pos (starEach [] env))) S K := fun θ s E Q R p k => args_nil (k _ _ θ s.heap s.toks _ h R (List.prefix_refl _) .nil)
theorem TL_cons {K : List AV → AS → Prop} {pos : Pos} {e : Expr} {r : List Expr} (h : Tr X (eval e env) S fun v S1 => TrL X (spliced (backTo pos (starEach r env))) S1 fun vs S2 => K (v :: vs) S2)
    (hs : starEach (e :: r) env = (false, eval e env) :: starEach r env := by rfl) : TrL X (spliced (backTo pos (starEach (e :: r) env))) S K :=
  fun θ s E Q R p k => args_cons (h θ s E _ R p fun v S1 θ1 h1 tk1 c k1 R1 p1 v1 => k1 θ1 _ E _ R1 (p.trans p1) fun vs S2 θ2 h2 tk2 cs k2 R2 p2 v2 => k _ S2 θ2 h2 tk2 _ k2 R2 (p1.trans p2) (.cons (v1.mono p2) v2)) hs
theorem T_tuple {K : AV → AS → Prop} {es : List Expr} {j : Nat} {pos : Pos} (h : TrL X (spliced (backTo pos (starEach es env))) S fun vs S1 => vs.length ≤ 9 ∧ K (.ref S1.hp.length) (S1.new (.tup vs))) : Tr X (eval (.Tuple es j pos) env) S K :=
  fun θ s E Q R p k => Tuple_ (h θ s E _ R p fun vs S1 θ1 h1 tk1 cs k1 R1 p1 v1 => by
    obtain ⟨os, m, F, N, D, l, O, V⟩ := R1.is
    refine kup_newTuple F N (fun d h' F' N' ld => ?_) (by have := v1.len; have := k1.1; rw [sizeLine_eq]; omega)
    refine k _ _ _ h' tk1 _ k1.2 (Rel.push F' N' D ld l O V (.tup (v1.mono fun _ _ q => q.mono ⟨[d], rfl⟩))) (p1.trans ⟨[d], rfl⟩) (.ref ?_)
    rw [O.len, ← l, List.getElem?_concat_length])
theorem T_list {K : AV → AS → Prop} {es : List Expr} {pos : Pos} (h : TrL X (spliced (backTo pos (starEach es env))) S fun vs S1 => vs.length ≤ 9 ∧ K (.ref S1.hp.length) (S1.new (.lst vs))) : Tr X (eval (.List es pos) env) S K :=
  fun θ s E Q R p k => List_ (h θ s E _ R p fun vs S1 θ1 h1 tk1 cs k1 R1 p1 v1 => by
    obtain ⟨os, m, F, N, D, l, O, V⟩ := R1.is
    refine newList_K F N (fun d h' F' N' ld => ?_) (by have := v1.len; have := k1.1; rw [sizeLine_eq]; omega)
    refine k _ _ _ h' tk1 _ k1.2 (Rel.push F' N' D ld l O V (.lst (v1.mono fun _ _ q => q.mono ⟨[d], rfl⟩))) (p1.trans ⟨[d], rfl⟩) (.ref ?_)
    rw [O.len, ← l, List.getElem?_concat_length])
/-- targets in their order -/
noncomputable def TrIn (X : Cx) (ts : List (Value → Sem Unit)) (vs : List AV) (S : AS) (K : AS → Prop) : Prop :=
  ∀ θ s E Q cs, Rel X.h₀ X.L X.rest S θ s.heap → X.θ₀ <+: θ → A2 (VR θ) vs cs → (∀ S' θ' h' tk', K S' → Rel X.h₀ X.L X.rest S' θ' h' → θ <+: θ' → Q () { s with heap := h', toks := tk' }) → wpAny (model X.prog X.w) X.A (assignInOrder ts cs) Q E s
theorem TI_nil {K : AS → Prop} {vs : List AV} (h : K S) : TrIn X [] vs S K := fun θ s E Q cs R p v k => assignInOrder_nil (k _ θ s.heap s.toks h R (List.prefix_refl _))
theorem TI_cons {K : AS → Prop} {t : Value → Sem Unit} {ts : List (Value → Sem Unit)} {v : AV} {vs : List AV} (h : Tr1 X (fun _ _ _ => True) t v S (fun (_ : Unit) S1 => TrIn X ts vs S1 K)) : TrIn X (t :: ts) (v :: vs) S K :=
  fun θ s E Q cs R p vv k => by
  cases vv with
  | cons v1 vs1 => exact assignInOrder_cons (h θ s E _ _ R p v1 fun _ S1 θ1 h1 tk1 _ k1 R1 p1 _ => k1 θ1 _ E _ _ R1 (p.trans p1) (vs1.mono fun _ _ q => q.mono p1) fun S2 θ2 h2 tk2 k2 R2 p2 => k S2 θ2 h2 tk2 k2 R2 (p1.trans p2))
theorem T_assignTup {K : AF → AS → Prop} {es : List Expr} {j : Nat} {e : Expr} {pos tp : Pos} (h : Tr X (eval e env) S fun v S1 => Tr1 X (fun _ _ _ => True) (assign (.Tuple es j tp) env) v S1 (fun (_ : Unit) S2 => K .next S2))
    (h1 : swapsWithSole [.Tuple es j tp] e pos.line env = pure false := by with_unfolding_all rfl) (h2 : swappedStores [.Tuple es j tp] e env = pure none := by with_unfolding_all rfl) : TrF X (exec (.Assign [.Tuple es j tp] e pos) env) S K :=
  fun θ s E Q R p k => Assign_Tuple (h θ s E _ R p fun v S1 θ1 h1 tk1 c kS R1 p1 v1 => kS θ1 _ E _ c R1 (p.trans p1) v1 fun _ S2 θ2 h2 tk2 _ k2 R2 p2 _ => k .next S2 θ2 h2 tk2 .next k2 R2 (p1.trans p2) .next) h1 h2
theorem T_unpack {K : AS → Prop} {es : List Expr} {j k : Nat} {tp : Pos} {vs : List AV} (hk : S.hp[k]? = some (.tup vs)) (h : TrIn X ((assignEach es env).map (·.2)) vs S K)
    (hn : (assignEach es env).length = vs.length := by rfl) (hs : (assignEach es env).findIdx? (·.1) = none := by rfl) : Tr1 X (fun _ _ _ => True) (assign (.Tuple es j tp) env) (.ref k) S (fun (_ : Unit) S' => K S') :=
  fun θ s E Q c R p v1 kk => by
  obtain ⟨os, m, oo, F, N, D, l, O, V, e1, o1, _⟩ := R.get hk
  cases VR.refI v1 with
  | mk h' =>
    cases OR.tupI o1 with
    | mk hvs =>
      rename_i cs n
      refine unpackN_ F N ⟨_, (N _ (List.mem_append_left _ (led_mem h' e1))).1, rfl, _, rfl⟩ X.hh (by rw [hn, List.size_toArray, hvs.len]) hs fun h1 F1 N1 => ?_
      exact h θ _ E _ cs ⟨os, m, F1, N1, D, l, O, V⟩ p hvs fun S2 θ2 h2 tk2 k2 R2 p2 => kk () S2 θ2 h2 tk2 () k2 R2 p2 trivial
theorem T_assignSw {K : AF → AS → Prop} {es : List Expr} {j : Nat} {e : Expr} {pos tp : Pos} {names : List Str} (h : Tr X (eval e env) S fun v S1 => ∃ k vs, v = .ref k ∧ S1.hp[k]? = some (.tup vs) ∧ names.length = vs.length ∧ TrIn X (names.reverse.map fun n => bindName env n) vs.reverse S1 fun S2 => K .next S2)
    (h1 : swapsWithSole [.Tuple es j tp] e pos.line env = pure false := by with_unfolding_all rfl) (h2 : swappedStores [.Tuple es j tp] e env = pure (some names) := by with_unfolding_all rfl) : TrF X (exec (.Assign [.Tuple es j tp] e pos) env) S K :=
  fun θ s E Q R p k => Assign_Tuple_swapped (h θ s E _ R p fun v S1 θ1 h1 tk1 c kS R1 p1 v1 => by
    obtain ⟨kk, vs, rfl, hk, hn, hh⟩ := kS
    obtain ⟨os, m, oo, F, N, D, l, O, V, e1, o1, _⟩ := R1.get hk
    cases VR.refI v1 with
    | mk h' =>
      cases OR.tupI o1 with
      | mk hvs =>
        rename_i cs n
        refine unpackItemsN_ F N ⟨_, (N _ (List.mem_append_left _ (led_mem h' e1))).1, rfl, _, rfl⟩ X.hh (by rw [hn, List.size_toArray, hvs.len]) fun h1 F1 N1 => ?_
        have rv : ∀ {vs : List AV} {cs : List Value}, A2 (VR θ1) vs cs → A2 (VR θ1) vs.reverse cs.reverse := by
          intro vs cs h
          induction h with
          | nil => exact .nil
          | cons h _ ih => rw [List.reverse_cons, List.reverse_cons]; exact ih.push h
        exact hh θ1 _ E _ cs.reverse ⟨os, m, F1, N1, D, l, O, V⟩ (p.trans p1) (rv hvs) fun S2 θ2 h2 tk2 k2 R2 p2 => k .next S2 θ2 h2 tk2 .next k2 R2 (p1.trans p2) .next) h1 h2
-- statements
theorem TF_nil {K : AF → AS → Prop} (h : K .next S) : TrF X (execs [] env) S K := fun θ s E Q R p k => wpAny_execs_nil (k _ _ θ s.heap s.toks _ h R (List.prefix_refl _) .next)
theorem TF_cons {K : AF → AS → Prop} {st : Stmt} {r : List Stmt} (h : TrF X (exec st env) S fun f S1 => match f with | .next => TrF X (execs r env) S1 K | f => K f S1) : TrF X (execs (st :: r) env) S K :=
  fun θ s E Q R p k => wpAny_execs_cons (h θ s E _ R p fun f S1 θ1 h1 tk1 c kS R1 p1 v1 => by
    cases v1 with
    | next => exact kS θ1 _ E Q R1 (p.trans p1) fun f2 S2 θ2 h2 tk2 c2 k2 R2 p2 v2 => k f2 S2 θ2 h2 tk2 c2 k2 R2 (p1.trans p2) v2
    | brk => exact k _ S1 θ1 h1 tk1 _ kS R1 p1 .brk
    | cont => exact k _ S1 θ1 h1 tk1 _ kS R1 p1 .cont
    | ret v => exact k _ S1 θ1 h1 tk1 _ kS R1 p1 (.ret v))
theorem TF_ret {K : AF → AS → Prop} {e : Expr} {pos : Pos} (h : Tr X (eval e env) S fun v S1 => K (.ret v) S1) : TrF X (exec (.Return (some e) pos) env) S K :=
  fun θ s E Q R p k => wpAny_Return_some (h θ s E _ R p fun v S1 θ1 h1 tk1 c kS R1 p1 v1 => k _ S1 θ1 h1 tk1 _ kS R1 p1 (.ret v1))
theorem TF_cont {K : AF → AS → Prop} {pos : Pos} (h : K .cont S) : TrF X (exec (.Continue pos) env) S K := fun θ s E Q R p k => wpAny_Continue (k _ _ θ s.heap s.toks _ h R (List.prefix_refl _) .cont)
theorem TF_expr {K : AF → AS → Prop} {e : Expr} {pos : Pos} (h : Tr X (eval e env) S fun _ S1 => K .next S1) (h1 : interactive env = false := by rfl) (h2 : swapsWith e none pos.line env = pure false := by with_unfolding_all rfl) : TrF X (exec (.Expr e pos) env) S K :=
  fun θ s E Q R p k => wpAny_Expr_any (h θ s E _ R p fun v S1 θ1 h1 tk1 c kS R1 p1 v1 => k _ S1 θ1 h1 tk1 _ kS R1 p1 .next) h1 h2
theorem TF_if {K : AF → AS → Prop} {e : Expr} {b1 b2 : List Stmt} {pos : Pos} (h : TrB X (PySem.isTrue e env (eval e env)) S fun b S1 => (b = true → TrF X (execs b1 env) S1 K) ∧ (b = false → TrF X (execs b2 env) S1 K)) : TrF X (exec (.If e b1 b2 pos) env) S K :=
  fun θ s E Q R p k => wpAny_If (h θ s E _ R p fun b S1 θ1 h1 tk1 c kS R1 p1 v1 => by
    subst v1
    cases c with
    | true => rw [if_pos rfl]; exact kS.1 rfl θ1 _ E Q R1 (p.trans p1) fun f2 S2 θ2 h2 tk2 c2 k2 R2 p2 v2 => k f2 S2 θ2 h2 tk2 c2 k2 R2 (p1.trans p2) v2
    | false => rw [if_neg (by decide)]; exact kS.2 rfl θ1 _ E Q R1 (p.trans p1) fun f2 S2 θ2 h2 tk2 c2 k2 R2 p2 v2 => k f2 S2 θ2 h2 tk2 c2 k2 R2 (p1.trans p2) v2)
theorem T_ifexp {K : AV → AS → Prop} {e b1 b2 : Expr} {pos : Pos} (h : TrB X (PySem.isTrue e env (eval e env)) S fun b S1 => (b = true → Tr X (eval b1 env) S1 K) ∧ (b = false → Tr X (eval b2 env) S1 K)) : Tr X (eval (.IfExp e b1 b2 pos) env) S K :=
  fun θ s E Q R p k => IfExp_ (h θ s E _ R p fun b S1 θ1 h1 tk1 c kS R1 p1 v1 => by
    subst v1
    cases c with
    | true => rw [if_pos rfl]; exact kS.1 rfl θ1 _ E Q R1 (p.trans p1) fun f2 S2 θ2 h2 tk2 c2 k2 R2 p2 v2 => k f2 S2 θ2 h2 tk2 c2 k2 R2 (p1.trans p2) v2
    | false => rw [if_neg (by decide)]; exact kS.2 rfl θ1 _ E Q R1 (p.trans p1) fun f2 S2 θ2 h2 tk2 c2 k2 R2 p2 v2 => k f2 S2 θ2 h2 tk2 c2 k2 R2 (p1.trans p2) v2)
-- truth
theorem TB_cmp {K : Bool → AS → Prop} {l r : Expr} {op : CmpOp} {pos : Pos} {whole : Sem Value} (h : Tr X (eval l env) S fun a S1 => Tr X (eval r env) S1 fun b S2 => Tr2 X VR (compareOp op) a b S2 fun c S3 => Tr1 X (fun _ b a => a = b) truthy c S3 K)
    (hm : behindInMarks op r = false := by with_unfolding_all rfl) : TrB X (PySem.isTrue (.Compare l [op] [r] pos) env whole) S K :=
  fun θ s E Q R p k => wpAny_isTrue_Compare1 (h θ s E _ R p fun a S1 θ1 h1 tk1 ca kA R1 p1 va => kA θ1 _ E _ R1 (p.trans p1) fun b S2 θ2 h2 tk2 cb kB R2 p2 vb =>
    kB θ2 _ E _ ca cb R2 ((p.trans p1).trans p2) (va.mono p2) vb fun c S3 θ3 h3 tk3 cc k3 R3 p3 v3 => k3 θ3 _ E _ cc R3 (((p.trans p1).trans p2).trans p3) v3 fun b4 S4 θ4 h4 tk4 a4 k4 R4 p4 v4 => k b4 S4 θ4 h4 tk4 a4 k4 R4 (((p1.trans p2).trans p3).trans p4) v4) hm
theorem T_truthy {K : Bool → AS → Prop} {b : Bool} (h : K b S) : Tr1 X (fun _ b a => a = b) truthy (.bool b) S K := fun θ s E Q c R p v k => by
  cases v; exact wpAny_truthy_bool (k _ _ θ s.heap s.toks _ h R (List.prefix_refl _) rfl)
theorem TB_plain {K : Bool → AS → Prop} {e : Expr} (h : Tr X (eval e env) S fun v S1 => Tr1 X (fun _ b a => a = b) truthy v S1 K) (hm : PySem.isTrue e env (eval e env) = (do let v ← eval e env; standAt e.pos; holding [v] (truthy v)) := by rfl) : TrB X (PySem.isTrue e env (eval e env)) S K :=
  fun θ s E Q R p k => isTrue_plain (h θ s E _ R p fun v S1 θ1 h1 tk1 c k1 R1 p1 v1 => k1 θ1 _ E _ c R1 (p.trans p1) v1 fun b4 S4 θ4 h4 tk4 a4 k4 R4 p4 v4 => k b4 S4 θ4 h4 tk4 a4 k4 R4 (p1.trans p4) v4) hm
theorem TB_not {K : Bool → AS → Prop} {e : Expr} {pos : Pos} {whole : Sem Value} (h : TrB X (PySem.isTrue e env (eval e env)) S fun b S1 => K (!b) S1) : TrB X (PySem.isTrue (.UnaryOp .Not e pos) env whole) S K :=
  fun θ s E Q R p k => isTrue_not (h θ s E _ R p fun v S1 θ1 h1 tk1 c k1 R1 p1 v1 => by subst v1; exact k _ S1 θ1 h1 tk1 _ k1 R1 p1 rfl)
theorem TB_or {K : Bool → AS → Prop} {e : Expr} {r : List Expr} {pos : Pos} {whole : Sem Value} (h : TrB X (PySem.isTrue e env (eval e env)) S fun b S1 => (b = true → K true S1) ∧ (b = false → TrB X (PySem.isTrue (.BoolOp .Or r pos) env whole) S1 K)) : TrB X (PySem.isTrue (.BoolOp .Or (e :: r) pos) env whole) S K :=
  fun θ s E Q R p k => isTrue_or (h θ s E _ R p fun v S1 θ1 h1 tk1 c k1 R1 p1 v1 => by
    subst v1
    cases c with
    | true => rw [if_pos rfl]; exact k _ S1 θ1 h1 tk1 _ (k1.1 rfl) R1 p1 rfl
    | false => rw [if_neg (by decide)]; exact k1.2 rfl θ1 _ E Q R1 (p.trans p1) fun f2 S2 θ2 h2 tk2 c2 k2 R2 p2 v2 => k f2 S2 θ2 h2 tk2 c2 k2 R2 (p1.trans p2) v2)
theorem TB_or0 {K : Bool → AS → Prop} {pos : Pos} {whole : Sem Value} (h : K false S) : TrB X (PySem.isTrue (.BoolOp .Or [] pos) env whole) S K :=
  fun θ s E Q R p k => isTrue_or_nil (k _ _ θ s.heap s.toks _ h R (List.prefix_refl _) rfl)
theorem TB_and {K : Bool → AS → Prop} {e : Expr} {r : List Expr} {pos : Pos} {whole : Sem Value} (h : TrB X (PySem.isTrue e env (eval e env)) S fun b S1 => (b = true → TrB X (PySem.isTrue (.BoolOp .And r pos) env whole) S1 K) ∧ (b = false → K false S1)) : TrB X (PySem.isTrue (.BoolOp .And (e :: r) pos) env whole) S K :=
  fun θ s E Q R p k => isTrue_and (h θ s E _ R p fun v S1 θ1 h1 tk1 c k1 R1 p1 v1 => by
    subst v1
    cases c with
    | true => rw [if_pos rfl]; exact k1.1 rfl θ1 _ E Q R1 (p.trans p1) fun f2 S2 θ2 h2 tk2 c2 k2 R2 p2 v2 => k f2 S2 θ2 h2 tk2 c2 k2 R2 (p1.trans p2) v2
    | false => rw [if_neg (by decide)]; exact k _ S1 θ1 h1 tk1 _ (k1.2 rfl) R1 p1 rfl)
theorem TB_and0 {K : Bool → AS → Prop} {pos : Pos} {whole : Sem Value} (h : K true S) : TrB X (PySem.isTrue (.BoolOp .And [] pos) env whole) S K :=
  fun θ s E Q R p k => isTrue_and_nil (k _ _ θ s.heap s.toks _ h R (List.prefix_refl _) rfl)
theorem T_isNone {K : AV → AS → Prop} (h : K (.bool true) S) : Tr2 X VR (compareOp .Is) .nil .nil S K := fun θ s E Q c d R p v1 v2 k => by
  cases v1; cases v2; exact is_none_none (k _ _ θ s.heap s.toks _ h R (List.prefix_refl _) .bool)
theorem T_isRef {K : AV → AS → Prop} {j : Nat} (h : K (.bool false) S) : Tr2 X VR (compareOp .Is) (.ref j) .nil S K := fun θ s E Q c d R p v1 v2 k => by
  cases v1; cases v2; exact is_ref_none (k _ _ θ s.heap s.toks _ h R (List.prefix_refl _) .bool)
theorem T_isntInt {K : AV → AS → Prop} {j : Int} (h : K (.bool true) S) : Tr2 X VR (compareOp .IsNot) (.int j) .nil S K := fun θ s E Q c d R p v1 v2 k => by
  cases v1; cases v2; exact isnot_int_none (k _ _ θ s.heap s.toks _ h R (List.prefix_refl _) .bool)
theorem T_isntNone {K : AV → AS → Prop} (h : K (.bool false) S) : Tr2 X VR (compareOp .IsNot) .nil .nil S K := fun θ s E Q c d R p v1 v2 k => by
  cases v1; cases v2; exact isnot_none_none (k _ _ θ s.heap s.toks _ h R (List.prefix_refl _) .bool)
end
section
variable {X : Cx} {S : AS} {env : Env} {cn : Str} {cs : Scope} {a : Addr} {ccd : Value} {cl : List (Str × Addr)}
theorem Rel.setR {h₀ h h' : Heap} {L : Addr} {rest : List (Addr × Obj)} {S : AS} {θ : List Addr} {os : List (Option Obj)} {m : Str → Option Value} {k : Nat} {b : Addr} {o o' : Obj} {ao : AO} (e0 : θ[k]? = some b) (e1 : os[k]? = some (some o)) (F : Fr h₀ L h' m) (N : News h₀ L h' (led θ (os.set k (some o')) ++ rest))
    (D : Dist ((led θ os ++ rest).map (·.1))) (l : θ.length = os.length) (O : A2 (OR θ) S.hp os) (V : LocR θ S.loc m) (ho : OR θ ao (some o')) : Rel h₀ L rest (S.put k ao) θ h' :=
  Rel.set F N (by rw [led_rep_map e0 e1]; exact D) l O V ho
theorem Rel.kill {h₀ h h' : Heap} {L : Addr} {rest : List (Addr × Obj)} {S : AS} {θ : List Addr} {os : List (Option Obj)} {m : Str → Option Value} {k : Nat} (F : Fr h₀ L h' m) (N : News h₀ L h' (led θ (os.set k none) ++ rest))
    (D : Dist ((led θ (os.set k none) ++ rest).map (·.1))) (l : θ.length = os.length) (O : A2 (OR θ) S.hp os) (V : LocR θ S.loc m) : Rel h₀ L rest (S.put k .gone) θ h' :=
  Rel.set F N D l O V .gone
theorem led_push_mem {θ : List Addr} {os : List (Option Obj)} {a : Addr} {o : Obj} {rest : List (Addr × Obj)} (l : θ.length = os.length) : ∀ q ∈ led (θ ++ [a]) (os ++ [some o]) ++ rest, q ∈ (a, o) :: (led θ os ++ rest) := by
  rw [led_push l]
  intro q hq
  simp only [List.append_assoc, List.cons_append, List.nil_append, List.mem_append, List.mem_cons] at hq ⊢
  rcases hq with h | h | h
  · exact .inr (.inl h)
  · exact .inl h
  · exact .inr (.inr h)
theorem led_push_dist {θ : List Addr} {os : List (Option Obj)} {a : Addr} {o : Obj} {rest : List (Addr × Obj)} (l : θ.length = os.length) (D : Dist ((led θ os ++ rest).map (·.1))) (hd : ∀ p ∈ led θ os ++ rest, p.1 < a) : Dist ((led (θ ++ [a]) (os ++ [some o]) ++ rest).map (·.1)) := by
  rw [led_push l]
  refine ⟨?_⟩
  have e : ((led θ os ++ [(a, o)] ++ rest).map (·.1)).Perm (a :: (led θ os ++ rest).map (·.1)) := by
    simp only [List.map_append, List.map_cons, List.map_nil, List.append_assoc, List.cons_append, List.nil_append]
    exact List.perm_middle
  exact e.nodup_iff.mpr (Dist.push D hd).nd
-- what is iterated
noncomputable def TrIt (X : Cx) (e : Expr) (env : Env) (S : AS) (K : Nat → AS → Prop) : Prop :=
  ∀ θ s Q, Rel X.h₀ X.L X.rest S θ s.heap → X.θ₀ <+: θ → (∀ k S' θ' h' tk' I, K k S' → Rel X.h₀ X.L X.rest S' θ' h' → θ <+: θ' → θ'[k]? = some I → Q (.ref I) { s with heap := h', toks := tk' }) →
    wpAny (model X.prog X.w) X.A (eval e env) (fun x s1 => wpAny (model X.prog X.w) X.A (pyIter x) Q NoE s1) NoE s
theorem TIt_list {K : Nat → AS → Prop} {e : Expr} (h : Tr X (eval e env) S fun v S1 => ∃ k vs, v = .ref k ∧ S1.hp[k]? = some (.lst vs) ∧ K S1.hp.length (S1.new (.li k 0))) : TrIt X e env S K := fun θ s Q R p kk => by
  refine h θ s _ _ R p fun v S1 θ1 h1 tk1 c hk R1 p1 v1 => ?_
  obtain ⟨k, vs, rfl, e1, hK⟩ := hk
  obtain ⟨os, m, oo, F, N, D, l, O, V, e2, o1, _⟩ := R1.get e1
  cases VR.refI v1 with
  | mk hA =>
    cases OR.lstI o1 with
    | mk hvs =>
      refine iter_list F N (List.mem_append_left _ (led_mem hA e2)) fun I h' oI F' N' hI ld => ?_
      refine kk _ _ _ h' tk1 _ hK (Rel.push F' N' D ld l O V (.li (pre_get ⟨[I], rfl⟩ hA) hI)) (p1.trans ⟨[I], rfl⟩) ?_
      rw [O.len, ← l, List.getElem?_concat_length]
theorem TIt_tup {K : Nat → AS → Prop} {e : Expr} (h : Tr X (eval e env) S fun v S1 => ∃ k vs, v = .ref k ∧ S1.hp[k]? = some (.tup vs) ∧ K S1.hp.length (S1.new (.ti k 0))) : TrIt X e env S K := fun θ s Q R p kk => by
  refine h θ s _ _ R p fun v S1 θ1 h1 tk1 c hk R1 p1 v1 => ?_
  obtain ⟨k, vs, rfl, e1, hK⟩ := hk
  obtain ⟨os, m, oo, F, N, D, l, O, V, e2, o1, _⟩ := R1.get e1
  cases VR.refI v1 with
  | mk hA =>
    cases OR.tupI o1 with
    | mk hvs =>
      refine iter_tuple F N (List.mem_append_left _ (led_mem hA e2)) fun I h' oI F' N' hI ld => ?_
      refine kk _ _ _ h' tk1 _ hK (Rel.push F' N' D ld l O V (.ti (pre_get ⟨[I], rfl⟩ hA) hI)) (p1.trans ⟨[I], rfl⟩) ?_
      rw [O.len, ← l, List.getElem?_concat_length]
theorem TIt_range1 {K : Nat → AS → Prop} {e : Expr} {f : Str} {pos fp : Pos} (g : Glb X env f (.type "range")) (h : Tr X (eval e env) S fun v S1 => ∃ n, v = .int n ∧ 0 ≤ n ∧ n < 2 ^ 62 ∧ K S1.hp.length (S1.new (.ri 0 (n - 0))))
    (hc : eval (.Call (.Name f fp) [e] [] pos) env = (do let __do_lift ← eval (.Name f fp) env; callWith pos __do_lift [] (backTo pos (starEach [e] env)) (backToKw pos (keywordEach [] env))) := by rfl)
    (hs : starEach (e :: []) env = (false, eval e env) :: starEach [] env := by rfl) : TrIt X (.Call (.Name f fp) [e] [] pos) env S K := fun θ s Q R p kk => by
  obtain ⟨os, m, F, N, D, l, O, V⟩ := R.is
  refine Call_ (g s m _ _ _ F (PySem.Pv.callWith_type1 (args_cons (h θ s _ _ R p fun v S1 θ1 h1 tk1 c hk R1 p1 v1 => args_nil ?_) hs) hs)) hc
  obtain ⟨n, rfl, n0, n1, hK⟩ := hk
  obtain ⟨os, m, F, N, D, l, O, V⟩ := R1.is
  cases v1
  refine range1_rows F N fun h' tk t₁ u₁ v₁ hr F' N' _ => ?_
  refine iter_range F' N' hr (small_one (by omega) (by omega) (by omega) n1) n0 fun I h2 F2 N2 ld => ?_
  refine kk _ _ _ h2 tk _ hK (Rel.push F2 N2 D ld l O V .ri) (p1.trans ⟨[I], rfl⟩) ?_
  rw [O.len, ← l, List.getElem?_concat_length]
theorem TIt_range2 {K : Nat → AS → Prop} {e e2 : Expr} {f : Str} {pos fp : Pos} (g : Glb X env f (.type "range")) (h : Tr X (eval e env) S fun v S1 => Tr X (eval e2 env) S1 fun v2 S2 => ∃ x y, v = .int x ∧ v2 = .int y ∧ x ≤ y ∧ -(2 ^ 62) ≤ x ∧ y < 2 ^ 62 ∧ K S2.hp.length (S2.new (.ri x (y - x))))
    (hc : eval (.Call (.Name f fp) [e, e2] [] pos) env = (do let __do_lift ← eval (.Name f fp) env; callWith pos __do_lift [] (backTo pos (starEach [e, e2] env)) (backToKw pos (keywordEach [] env))) := by rfl)
    (hs : starEach (e :: [e2]) env = (false, eval e env) :: starEach [e2] env := by rfl) (hs2 : starEach (e2 :: []) env = (false, eval e2 env) :: starEach [] env := by rfl)
    (ha : ((backTo pos (starEach [e2] env)).any fun x => x.1) = false := by rfl) : TrIt X (.Call (.Name f fp) [e, e2] [] pos) env S K := fun θ s Q R p kk => by
  obtain ⟨os, m, F, N, D, l, O, V⟩ := R.is
  refine Call_ (g s m _ _ _ F (PySem.Pv.callWith_type1 (args_cons (h θ s _ _ R p fun v S1 θ1 h1 tk1 c hk R1 p1 v1 => args_cons (hk θ1 _ _ _ R1 (p.trans p1) fun v2 S2 θ2 h2 tk2 c2 hk2 R2 p2 v2 => args_nil ?_) hs2) hs) hs ha)) hc
  obtain ⟨x, y, rfl, rfl, n0, n1, n2, hK⟩ := hk2
  obtain ⟨os, m, F, N, D, l, O, V⟩ := R2.is
  cases v1; cases v2
  refine range2_rows F N fun h' tk t₁ u₁ v₁ hr F' N' _ => ?_
  refine iter_range F' N' hr (small_one n1 (by omega) (by omega) n2) n0 fun I h2 F2 N2 ld => ?_
  refine kk _ _ _ h2 tk _ hK (Rel.push F2 N2 D ld l O V .ri) ((p1.trans p2).trans ⟨[I], rfl⟩) ?_
  rw [O.len, ← l, List.getElem?_concat_length]
theorem TIt_enum {K : Nat → AS → Prop} {e : Expr} {f : Str} {pos fp : Pos} (g : Glb X env f (.type "enumerate")) (h : Tr X (eval e env) S fun v S1 => ∃ k vs, v = .ref k ∧ S1.hp[k]? = some (.lst vs) ∧ K (S1.hp.length + 1) ((S1.new (.li k 0)).new (.en S1.hp.length 0)))
    (hc : eval (.Call (.Name f fp) [e] [] pos) env = (do let __do_lift ← eval (.Name f fp) env; callWith pos __do_lift [] (backTo pos (starEach [e] env)) (backToKw pos (keywordEach [] env))) := by rfl)
    (hs : starEach (e :: []) env = (false, eval e env) :: starEach [] env := by rfl) : TrIt X (.Call (.Name f fp) [e] [] pos) env S K := fun θ s Q R p kk => by
  obtain ⟨os, m, F, N, D, l, O, V⟩ := R.is
  refine Call_ (g s m _ _ _ F (PySem.Pv.callWith_type1 (args_cons (h θ s _ _ R p fun v S1 θ1 h1 tk1 c hk R1 p1 v1 => args_nil ?_) hs) hs)) hc
  obtain ⟨k, vs, rfl, e1, hK⟩ := hk
  obtain ⟨os, m, oo, F, N, D, l, O, V, e2, o1, _⟩ := R1.get e1
  cases VR.refI v1 with
  | mk hA =>
    cases OR.lstI o1 with
    | mk hvs =>
      refine call_enum F N (List.mem_append_left _ (led_mem hA e2)) fun ee it oI h' F' N' hI l1 l2 => ?_
      have p2 : θ1 <+: θ1 ++ [it] := ⟨[it], rfl⟩
      have O2 : A2 (OR (θ1 ++ [it])) (S1.new (.li k 0)).hp (os ++ [some oI]) := (O.mono fun _ _ q => q.mono p2).push (.li (pre_get p2 hA) hI)
      have hl : (θ1 ++ [it]).length = (os ++ [some oI]).length := by simp [l]
      have hit : (θ1 ++ [it] ++ [ee])[S1.hp.length]? = some it := by
        rw [O.len, ← l, List.append_assoc, List.getElem?_append_right (Nat.le_refl _), Nat.sub_self]; rfl
      refine iter_enum N' (.head _) (kk _ _ _ h' tk1 _ hK (Rel.push (S := S1.new (.li k 0)) (os := os ++ [some oI]) F' (fun q hq => ?_) (led_push_dist l D l1) (fun q hq => l2 q (led_push_mem l q hq)) hl O2 (V.mono p2) (.en (i := 0) (old := .none) hit)) (p1.trans ⟨[it, ee], by simp⟩) ?_)
      · rcases List.mem_cons.mp hq with rfl | hq
        · exact N' _ (.head _)
        · exact N' q (.tail _ (led_push_mem l q hq))
      · rw [O.len, ← l, List.append_assoc, List.getElem?_append_right (by omega)]; simp
-- turns of a for
noncomputable def TrFor (X : Cx) (target : Expr) (kI : Nat) (body : List Stmt) (env : Env) (S : AS) (K : AF → AS → Prop) : Prop :=
  ∀ θ s I R, Rel X.h₀ X.L X.rest S θ s.heap → X.θ₀ <+: θ → θ[kI]? = some I → (∀ f S' θ' h' tk' cf, K f S' → Rel X.h₀ X.L X.rest S' θ' h' → θ <+: θ' → FR θ' f cf → R (.ok cf) { s with heap := h', toks := tk' }) → codeAny (model X.prog X.w) X.A (.forLoop target (.ref I) body [] env) R s
theorem TF_for {K : AF → AS → Prop} {target iter : Expr} {body : List Stmt} {pos : Pos} (h : TrIt X iter env S fun kI S1 => TrFor X target kI body env S1 K) (hs : ∀ x, foldedSetIterable iter env x = pure x := by intro _; rfl) : TrF X (exec (.For target iter body [] pos) env) S K :=
  fun θ s E Q R p k => for_in (h θ s _ R p fun kI S1 θ1 h1 tk1 I hK R1 p1 hI => hK θ1 _ I _ R1 (p.trans p1) hI fun f S' θ' h' tk' cf kf R' p' v => k f S' θ' h' tk' cf kf R' (p1.trans p') v) hs
/-- the turn itself, of a value handed on -/
theorem for_turn {K : AF → AS → Prop} {x : Str} {px : Pos} {kI : Nat} {body : List Stmt} {v : AV} {S1 : AS} (h : Tr1 X (fun _ _ _ => True) (storeName env x) v S1 (fun (_ : Unit) S2 => TrF X (execs body env) S2 fun f S3 => match f with | .next | .cont => TrFor X (.Name x px) kI body env S3 K | .brk => K .next S3 | .ret v => K (.ret v) S3))
    {θ : List Addr} {s : Shared} {I : Addr} {R : Result → Shared → Prop} {h' : Heap} {tk : Nat} {c : Value} (R1 : Rel X.h₀ X.L X.rest S1 θ h') (p : X.θ₀ <+: θ) (hI : θ[kI]? = some I) (hv : VR θ v c) (k : ∀ f S' θ' h' tk' cf, K f S' → Rel X.h₀ X.L X.rest S' θ' h' → θ <+: θ' → FR θ' f cf → R (.ok cf) { s with heap := h', toks := tk' }) :
    wpAny (model X.prog X.w) X.A (letOwnedTupleGo (.Name x px) (.ref I) c) (fun _ s₁' => wpAny (model X.prog X.w) X.A (assign (.Name x px) env c) (fun _ s₂ => wpAny (model X.prog X.w) X.A (execs body env) (fun f s₃ => match f with
      | .next | .cont => codeAny (model X.prog X.w) X.A (.forLoop (.Name x px) (.ref I) body [] env) R s₃
      | .brk => R (.ok .next) s₃
      | .ret v => R (.ok (.ret v)) s₃) NoE s₂) NoE s₁') NoE { s with heap := h', toks := tk } := by
  refine letgo_name (PyProof.Rows.assign_Name (h θ { s with heap := h', toks := tk } _ _ c R1 p hv fun _ S2 θ2 h2 tk2 _ k2 R2 p2 _ => k2 θ2 _ _ _ R2 (p.trans p2) fun f S3 θ3 h3 tk3 cf k3 R3 p3 v3 => ?_))
  cases v3 with
  | next => exact k3 θ3 _ I R R3 ((p.trans p2).trans p3) (pre_get (p2.trans p3) hI) fun f S' θ' h' tk' cf kf R' p' v => k f S' θ' h' tk' cf kf R' ((p2.trans p3).trans p') v
  | cont => exact k3 θ3 _ I R R3 ((p.trans p2).trans p3) (pre_get (p2.trans p3) hI) fun f S' θ' h' tk' cf kf R' p' v => k f S' θ' h' tk' cf kf R' ((p2.trans p3).trans p') v
  | brk => exact k _ S3 θ3 h3 tk3 _ k3 R3 (p2.trans p3) .next
  | ret v => exact k _ S3 θ3 h3 tk3 _ k3 R3 (p2.trans p3) (.ret v)
theorem TFor_list {K : AF → AS → Prop} {x : Str} {px : Pos} {kI k i : Nat} {vs : List AV} {v : AV} {body : List Stmt} (e1 : S.hp[kI]? = some (.li k i)) (e2 : S.hp[k]? = some (.lst vs)) (e3 : vs[i]? = some v)
    (h : Tr1 X (fun _ _ _ => True) (storeName env x) v (S.put kI (.li k (i + 1))) (fun (_ : Unit) S2 => TrF X (execs body env) S2 fun f S3 => match f with | .next | .cont => TrFor X (.Name x px) kI body env S3 K | .brk => K .next S3 | .ret v => K (.ret v) S3)) : TrFor X (.Name x px) kI body env S K := fun θ s I Rr R p hI kk => by
  obtain ⟨os, m, oo, F, N, D, l, O, V, e4, o1, _⟩ := R.get e1
  obtain ⟨oo2, e5, o2⟩ := O.get e2
  cases OR.liI o1 with
  | mk hk hIt =>
    cases OR.lstI o2 with
    | mk hvs =>
      obtain ⟨c, hc, hr⟩ := hvs.get e3
      exact for_step (next_list F N D (led_rep hI e4) hIt (List.mem_append_left _ (led_mem hk e5)) (At_of hc) fun h' oI' F' N' hI' => for_turn h (Rel.setR (h := s.heap) hI e4 F' N' D l O V (.li hk hI')) p hI hr kk)
theorem TFor_list0 {K : AF → AS → Prop} {x : Str} {px : Pos} {kI k i : Nat} {vs : List AV} {body : List Stmt} (e1 : S.hp[kI]? = some (.li k i)) (e2 : S.hp[k]? = some (.lst vs)) (e3 : vs[i]? = none)
    (h : K .next (S.put kI .gone)) : TrFor X (.Name x px) kI body env S K := fun θ s I Rr R p hI kk => by
  obtain ⟨os, m, oo, F, N, D, l, O, V, e4, o1, _⟩ := R.get e1
  obtain ⟨oo2, e5, o2⟩ := O.get e2
  cases OR.liI o1 with
  | mk hk hIt =>
    cases OR.lstI o2 with
    | mk hvs =>
      rename_i cs n
      have hc : cs.toArray[i]? = none := by
        rw [List.getElem?_toArray]; rw [List.getElem?_eq_none_iff] at e3 ⊢; rw [← hvs.len]; exact e3
      exact for_step (next_list_end X.hh F N D (led_tak hI e4) hIt (List.mem_append_left _ (led_mem hk e5)) hc fun h' F' N' D' => kk _ _ θ h' s.toks _ h (Rel.kill (h := s.heap) F' N' D' l O V) (List.prefix_refl _) .next)
theorem TFor_tup {K : AF → AS → Prop} {x : Str} {px : Pos} {kI k i : Nat} {vs : List AV} {v : AV} {body : List Stmt} (e1 : S.hp[kI]? = some (.ti k i)) (e2 : S.hp[k]? = some (.tup vs)) (e3 : vs[i]? = some v)
    (h : Tr1 X (fun _ _ _ => True) (storeName env x) v (S.put kI (.ti k (i + 1))) (fun (_ : Unit) S2 => TrF X (execs body env) S2 fun f S3 => match f with | .next | .cont => TrFor X (.Name x px) kI body env S3 K | .brk => K .next S3 | .ret v => K (.ret v) S3)) : TrFor X (.Name x px) kI body env S K := fun θ s I Rr R p hI kk => by
  obtain ⟨os, m, oo, F, N, D, l, O, V, e4, o1, _⟩ := R.get e1
  obtain ⟨oo2, e5, o2⟩ := O.get e2
  cases o1 with
  | ti hk hIt =>
    cases OR.tupI o2 with
    | mk hvs =>
      obtain ⟨c, hc, hr⟩ := hvs.get e3
      exact for_step (next_tuple F N D (led_rep hI e4) hIt (List.mem_append_left _ (led_mem hk e5)) (At_of hc) fun h' oI' F' N' hI' => for_turn h (Rel.setR (h := s.heap) hI e4 F' N' D l O V (.ti hk hI')) p hI hr kk)
theorem TFor_tup0 {K : AF → AS → Prop} {x : Str} {px : Pos} {kI k i : Nat} {vs : List AV} {body : List Stmt} (e1 : S.hp[kI]? = some (.ti k i)) (e2 : S.hp[k]? = some (.tup vs)) (e3 : vs[i]? = none)
    (h : K .next (S.put kI .gone)) : TrFor X (.Name x px) kI body env S K := fun θ s I Rr R p hI kk => by
  obtain ⟨os, m, oo, F, N, D, l, O, V, e4, o1, _⟩ := R.get e1
  obtain ⟨oo2, e5, o2⟩ := O.get e2
  cases o1 with
  | ti hk hIt =>
    cases OR.tupI o2 with
    | mk hvs =>
      rename_i cs n
      have hc : cs.toArray[i]? = none := by
        rw [List.getElem?_toArray]; rw [List.getElem?_eq_none_iff] at e3 ⊢; rw [← hvs.len]; exact e3
      exact for_step (next_tuple_end X.hh F N D (led_tak hI e4) hIt (List.mem_append_left _ (led_mem hk e5)) hc fun h' F' N' D' => kk _ _ θ h' s.toks _ h (Rel.kill (h := s.heap) F' N' D' l O V) (List.prefix_refl _) .next)
theorem TFor_range {K : AF → AS → Prop} {x : Str} {px : Pos} {kI : Nat} {y n : Int} {body : List Stmt} (e1 : S.hp[kI]? = some (.ri y n)) (hn : 0 < n)
    (h : Tr1 X (fun _ _ _ => True) (storeName env x) (.int y) (S.put kI (.ri (y + 1) (n - 1))) (fun (_ : Unit) S2 => TrF X (execs body env) S2 fun f S3 => match f with | .next | .cont => TrFor X (.Name x px) kI body env S3 K | .brk => K .next S3 | .ret v => K (.ret v) S3)) : TrFor X (.Name x px) kI body env S K := fun θ s I Rr R p hI kk => by
  obtain ⟨os, m, oo, F, N, D, l, O, V, e4, o1, _⟩ := R.get e1
  cases o1 with
  | ri => exact for_step (next_range F N D (led_rep hI e4) hn fun h' t F' N' => for_turn h (Rel.setR (h := s.heap) hI e4 F' N' D l O V .ri) p hI .int kk)
theorem TFor_range0 {K : AF → AS → Prop} {x : Str} {px : Pos} {kI : Nat} {y n : Int} {body : List Stmt} (e1 : S.hp[kI]? = some (.ri y n)) (hn : n ≤ 0)
    (h : K .next (S.put kI .gone)) : TrFor X (.Name x px) kI body env S K := fun θ s I Rr R p hI kk => by
  obtain ⟨os, m, oo, F, N, D, l, O, V, e4, o1, _⟩ := R.get e1
  cases o1 with
  | ri => exact for_step (next_range_end X.hh F N D (led_tak hI e4) hn fun h' F' N' D' => kk _ _ θ h' s.toks _ h (Rel.kill (h := s.heap) F' N' D' l O V) (List.prefix_refl _) .next)

-- comprehensions
noncomputable def TrCp (X : Cx) (e : Expr) (kI kD : Nat) (env : Env) (S : AS) (K : AS → Prop) : Prop :=
  ∀ θ s I D R, Rel X.h₀ X.L X.rest S θ s.heap → X.θ₀ <+: θ → θ[kI]? = some I → θ[kD]? = some D → (∀ S' θ' h' tk', K S' → Rel X.h₀ X.L X.rest S' θ' h' → θ <+: θ' → R (.ok .next) { s with heap := h', toks := tk' }) → codeAny (model X.prog X.w) X.A (.compLoop e 0 (.ref I) (.ref D) env) R s
noncomputable def Cx.at (X : Cx) (θ : List Addr) : Cx := { X with θ₀ := θ }
theorem it_self {X : Cx} {θ : List Addr} {ao : AO} {oo : Option Obj} {I : Addr} (o1 : OR θ ao oo) (hao : (∃ k i, ao = .li k i) ∨ (∃ x n, ao = .ri x n) ∨ ∃ k i, ao = .en k i) : ∃ oI, oo = some oI ∧ ∀ (s' : Shared) (Q : Value → Shared → Prop) (E : Value → Shared → Prop), s'.heap.get? I = some oI → Q (.ref I) s' → wpAny (model X.prog X.w) X.A (pyIter (.ref I)) Q E s' := by
  rcases hao with ⟨k, i, rfl⟩ | ⟨x, n, rfl⟩ | ⟨k, i, rfl⟩
  · cases o1 with | li hk hIt => exact ⟨_, rfl, fun s' Q E e h => self_LI hIt s' Q E e h⟩
  · cases o1 with | ri => exact ⟨_, rfl, fun s' Q E e h => self_itR s' Q E e h⟩
  · cases o1 with | en hk => exact ⟨_, rfl, fun s' Q E e h => self_en s' Q E e h⟩
/-- what a comprehension's list is done with: P of the list, the block's own names, the state behind -/
theorem comp_core {e elt target iter : Expr} {ifs : List Expr} {gs : List Comprehension} {scope : Scope} {cl' : List (Str × Addr)} {pos : Pos} {θ : List Addr} {s : Shared} {P : Value → Addr → Shared → Prop} {K : Nat → AS → Prop} (hcell : ∀ y ∈ scope.names, y.2 ≠ .cell) (he : e = .ListComp elt (⟨target, iter, ifs, 0⟩ :: gs) scope pos)
    (h : TrIt X iter env S fun kI S1 => (∃ ao, S1.hp[kI]? = some ao ∧ ((∃ k i, ao = .li k i) ∨ (∃ x n, ao = .ri x n) ∨ ∃ k i, ao = .en k i)) ∧ ∀ C θ₁, X.θ₀ <+: θ₁ → θ₁[S1.hp.length + 1]? = some C → TrCp (X.at θ₁) e kI S1.hp.length (compEnvC scope cl' C env) ((S1.new (.lst [])).new (.ns [])) (K S1.hp.length))
    (R : Rel X.h₀ X.L X.rest S θ s.heap) (p : X.θ₀ <+: θ)
    (hP : ∀ n D C S4 θ4 h4 tk4, K n S4 → Rel X.h₀ X.L X.rest S4 θ4 h4 → θ <+: θ4 → θ4[n]? = some D → θ4[n + 1]? = some C → P (.ref D) C { s with heap := h4, toks := tk4 }) :
    wpAny (model X.prog X.w) X.A (eval iter env) (fun x s₁ => wpAny (model X.prog X.w) X.A (pyIter x) (fun it s₂ => wpAny (model X.prog X.w) X.A (newList []) (fun acc s₃ => wpAny (model X.prog X.w) X.A (newFunctionEnv scope env.globals cl' [] env.qual none .none (some env)) (fun cenv s₄ =>
      codeAny (model X.prog X.w) X.A (.compStart e 0 it acc { cenv with scope := relabel scope env })
        (fun r s' => match r with | .ok _ => P acc cenv.locals s' | .error _ => False) s₄) NoE s₃) NoE s₂) NoE s₁) NoE s := by
  refine h θ s _ R p fun kI S1 θ1 h1 tk1 I hK R1 p1 hI => ?_
  obtain ⟨⟨ao, e1, hao⟩, hK⟩ := hK
  obtain ⟨os, m, oo, F, N, D, l, O, V, e4, o1, _⟩ := R1.get e1
  obtain ⟨oI, e0, hself⟩ := it_self (X := X) (I := I) o1 hao
  subst e0
  refine CompIn.start F N (List.mem_append_left _ (led_mem hI e4)) hcell hself he fun C D' oC h2 F2 hC N2 l1 l2 => ?_
  have p2 : θ1 <+: θ1 ++ [D'] := ⟨[D'], rfl⟩
  have O2 : A2 (OR (θ1 ++ [D'])) (S1.new (.lst [])).hp (os ++ [some (listOf #[] 0)]) := (O.mono fun _ _ q => q.mono p2).push (.lst (cs := []) .nil)
  have hl : (θ1 ++ [D']).length = (os ++ [some (listOf #[] 0)]).length := by simp [l]
  have R3 : Rel X.h₀ X.L X.rest ((S1.new (.lst [])).new (.ns [])) (θ1 ++ [D'] ++ [C]) h2 := by
    refine Rel.push (S := S1.new (.lst [])) (os := os ++ [some (listOf #[] 0)]) F2 (fun q hq => ?_) (led_push_dist l D l1) (fun q hq => l2 q (led_push_mem l q hq)) hl O2 (V.mono p2) (.ns hC fun x v e => by cases e)
    rcases List.mem_cons.mp hq with rfl | hq
    · exact N2 _ (.head _)
    · exact N2 q (.tail _ (led_push_mem l q hq))
  have eD : (θ1 ++ [D'] ++ [C])[S1.hp.length]? = some D' := by rw [O.len, ← l, List.append_assoc, List.getElem?_append_right (Nat.le_refl _), Nat.sub_self]; rfl
  have eC : (θ1 ++ [D'] ++ [C])[S1.hp.length + 1]? = some C := by rw [O.len, ← l, List.append_assoc, List.getElem?_append_right (by omega)]; simp
  have p3 : θ1 <+: θ1 ++ [D'] ++ [C] := ⟨[D', C], by simp⟩
  refine hK C (θ1 ++ [D'] ++ [C]) ((p.trans p1).trans p3) eC _ _ I D' _ R3 (List.prefix_refl _) (pre_get p3 hI) eD fun S4 θ4 h4 tk4 k4 R4 p4 => ?_
  exact hP _ D' C S4 θ4 h4 tk4 k4 R4 ((p1.trans p3).trans p4) (pre_get p4 eD) (pre_get p4 eC)
/-- the block's own names are put away -/
theorem comp_out {n : Nat} {C : Addr} {l : List (Str × AV)} {S4 : AS} {θ4 : List Addr} {s : Shared} {Q : Shared → Prop} (e5 : S4.hp[n + 1]? = some (.ns l)) (R4 : Rel X.h₀ X.L X.rest S4 θ4 s.heap) (eC : θ4[n + 1]? = some C) (kk : ∀ h', Rel X.h₀ X.L X.rest (S4.put (n + 1) .gone) θ4 h' → Q { s with heap := h' }) : CompOut X.h₀ X.L C Q s := by
  obtain ⟨os4, m4, oo4, F4, N4, D4, l4, O4, V4, e6, o4, _⟩ := R4.get e5
  cases o4 with
  | ns hC4 hl4 => exact CompOut.intro F4 N4 D4 (led_tak eC e6) hC4 fun h' F' N' D' => kk h' (Rel.kill (h := s.heap) F' N' D' l4 O4 V4)
theorem T_comp {K : AV → AS → Prop} {elt target iter : Expr} {ifs : List Expr} {gs : List Comprehension} {scope : Scope} {cl' : List (Str × Addr)} {pos : Pos} (hclos : closureFor scope env = pure cl') (hkind : scope.kind = .function) (hnames : ∀ y ∈ scope.names, y.2 = .local → scope.names.lookup y.1 = some .local) (hcell : ∀ y ∈ scope.names, y.2 ≠ .cell)
    (h : TrIt X iter env S fun kI S1 => (∃ ao, S1.hp[kI]? = some ao ∧ ((∃ k i, ao = .li k i) ∨ (∃ x n, ao = .ri x n) ∨ ∃ k i, ao = .en k i)) ∧ ∀ C θ₁, X.θ₀ <+: θ₁ → θ₁[S1.hp.length + 1]? = some C → TrCp (X.at θ₁) (.ListComp elt (⟨target, iter, ifs, 0⟩ :: gs) scope pos) kI S1.hp.length (compEnvC scope cl' C env) ((S1.new (.lst [])).new (.ns [])) fun S2 => (∃ l, S2.hp[S1.hp.length + 1]? = some (.ns l)) ∧ K (.ref S1.hp.length) (S2.put (S1.hp.length + 1) .gone))
    (hs : ∀ x, foldedSetIterable iter env x = pure x := by intro _; rfl) : Tr X (eval (.ListComp elt (⟨target, iter, ifs, 0⟩ :: gs) scope pos) env) S K := fun θ s E Q R p kk => by
  obtain ⟨_, m0, F0, _⟩ := R.is
  refine comp_in F0 hclos hkind hnames (comp_core (P := fun acc C s' => CompOut X.h₀ X.L C (fun s'' => Q acc s'') s') (K := fun n S2 => (∃ l, S2.hp[n + 1]? = some (.ns l)) ∧ K (.ref n) (S2.put (n + 1) .gone)) hcell rfl h R p fun n D C S4 θ4 h4 tk4 k4 R4 p4 eD eC => ?_) hs
  obtain ⟨⟨lc, e5⟩, k5⟩ := k4
  exact comp_out (s := { s with heap := h4, toks := tk4 }) e5 R4 eC fun h' R5 => kk _ _ θ4 h' tk4 _ k5 R5 p4 (.ref eD)
/-- the same, its list bound to a name -/
theorem T_assignComp {K : AF → AS → Prop} {elt target iter : Expr} {ifs : List Expr} {gs : List Comprehension} {scope : Scope} {cl' : List (Str × Addr)} {pos spos py : Pos} {y : Str} (hsw : swapsWith (.ListComp elt (⟨target, iter, ifs, 0⟩ :: gs) scope pos) (some (.Name y py)) spos.line env = pure true) (hclos : closureFor scope env = pure cl') (hkind : scope.kind = .function) (hnames : ∀ y ∈ scope.names, y.2 = .local → scope.names.lookup y.1 = some .local) (hcell : ∀ y ∈ scope.names, y.2 ≠ .cell)
    (h : TrIt X iter env S fun kI S1 => (∃ ao, S1.hp[kI]? = some ao ∧ ((∃ k i, ao = .li k i) ∨ (∃ x n, ao = .ri x n) ∨ ∃ k i, ao = .en k i)) ∧ ∀ C θ₁, X.θ₀ <+: θ₁ → θ₁[S1.hp.length + 1]? = some C → TrCp (X.at θ₁) (.ListComp elt (⟨target, iter, ifs, 0⟩ :: gs) scope pos) kI S1.hp.length (compEnvC scope cl' C env) ((S1.new (.lst [])).new (.ns [])) fun S2 => Tr1 X (fun _ _ _ => True) (storeName env y) (.ref S1.hp.length) S2 (fun (_ : Unit) S3 => (∃ l, S3.hp[S1.hp.length + 1]? = some (.ns l)) ∧ K .next (S3.put (S1.hp.length + 1) .gone)))
    (hs : ∀ x, foldedSetIterable iter env x = pure x := by intro _; rfl) : TrF X (exec (.Assign [.Name y py] (.ListComp elt (⟨target, iter, ifs, 0⟩ :: gs) scope pos) spos) env) S K := fun θ s E Q R p kk => by
  obtain ⟨_, m0, F0, _⟩ := R.is
  refine comp_inA F0 hsw hclos hkind hnames (comp_core (P := fun acc C s' => wpAny (model X.prog X.w) X.A (assign (.Name y py) env acc) (fun _ s'' => CompOut X.h₀ X.L C (fun s₃ => Q .next s₃) s'') NoE s') (K := fun n S2 => Tr1 X (fun _ _ _ => True) (storeName env y) (.ref n) S2 (fun (_ : Unit) S3 => (∃ l, S3.hp[n + 1]? = some (.ns l)) ∧ K .next (S3.put (n + 1) .gone))) hcell rfl h R p fun n D C S4 θ4 h4 tk4 k4 R4 p4 eD eC => ?_) hs
  refine PyProof.Rows.assign_Name (k4 θ4 _ _ _ _ R4 (p.trans p4) (.ref eD) fun _ S5 θ5 h5 tk5 _ k5 R5 p5 _ => ?_)
  obtain ⟨⟨lc, e5⟩, k5⟩ := k5
  exact comp_out (s := { s with heap := h5, toks := tk5 }) e5 R5 (pre_get p5 eC) fun h' R6 => kk _ _ θ5 h' tk5 _ k5 R6 (p4.trans p5) .next
end
section
variable {X : Cx} {S : AS} {env : Env} {scope : Scope} {cl : List (Str × Addr)} {C : Addr}
theorem T_storeP {K : AS → Prop} {x : Str} {v : AV} {kC : Nat} {l : List (Str × AV)} (hC : X.θ₀[kC]? = some C) (e : S.hp[kC]? = some (.ns l)) (h : K (S.put kC (.ns ((x, v) :: l))))
    (hl : (compEnvC scope cl C env).kindOf x = some .local := by rfl)
    (hk : ((compEnvC scope cl C env).scope.kind == .class || ((compEnvC scope cl C env).scope.kind == .module && (compEnvC scope cl C env).locals != (compEnvC scope cl C env).globals)) = false := by rfl) :
    Tr1 X (fun _ _ _ => True) (storeName (compEnvC scope cl C env) x) v S (fun (_ : Unit) S' => K S') := fun θ s E Q c R p v1 k => by
  obtain ⟨os, m, oo, F, N, D, lθ, O, V, e1, o1, _⟩ := R.get e
  cases o1 with
  | ns hN hV =>
    have hA := pre_get p hC
    refine store_own F N D (led_rep hA e1) hN hl (fun h' oC' F' N' hC' => k () _ θ h' (s.toks + 1) () h (Rel.setR (h := s.heap) hA e1 F' N' D lθ O V (.ns hC' ?_)) (List.prefix_refl _) trivial) hk
    intro y w e
    simp only [List.lookup_cons] at e
    by_cases hy : y = x
    · subst hy
      rw [beq_self_eq_true] at e
      cases e
      exact ⟨c, by simp, v1⟩
    · rw [beq_false_of_ne hy] at e
      obtain ⟨c', h1, h2⟩ := hV y w e
      exact ⟨c', by simp [hy, h1], h2⟩
theorem T_nameP {K : AV → AS → Prop} {x : Str} {v : AV} {pos : Pos} {kC : Nat} {l : List (Str × AV)} (hC : X.θ₀[kC]? = some C) (e : S.hp[kC]? = some (.ns l)) (hv : l.lookup x = some v) (h : K v S)
    (hk : (compEnvC scope cl C env).scope.kind = .function := by rfl) (hl : (compEnvC scope cl C env).kindOf x = some .local := by rfl) (hd : (x == ("__debug__" : Str)) = false := by decide) : Tr X (eval (.Name x pos) (compEnvC scope cl C env)) S K := fun θ s E Q R p k => by
  obtain ⟨os, m, oo, F, N, D, lθ, O, V, e1, o1, _⟩ := R.get e
  cases o1 with
  | ns hN hV =>
    obtain ⟨c, h1, h2⟩ := hV x v hv
    exact ld_comp N hN (List.mem_append_left _ (led_mem (pre_get p hC) e1)) h1 (k _ _ θ s.heap s.toks _ h R (List.prefix_refl _) h2) hk hl hd
theorem T_namePF {K : AV → AS → Prop} {x : Str} {v : AV} {pos : Pos} {c : Addr} {j : Nat} (hc : cl.lookup x = some c) (hθ : X.θ₀[j]? = some c) (hj : S.hp[j]? = some (.cell (some v))) (h : K v S)
    (hk : (compEnvC scope cl C env).scope.kind = .function := by rfl) (hx : (compEnvC scope cl C env).kindOf x = some .free := by rfl) (hb : (x == ("__debug__" : Str)) = false := by decide) (hn : (x == ("__classdict__" : Str)) = false := by decide) : Tr X (eval (.Name x pos) (compEnvC scope cl C env)) S K := fun θ s E Q R p k => by
  obtain ⟨os, m, oo, F, N, D, l, O, V, e1, o1, _⟩ := R.get hj
  cases o1 with
  | cell1 e2 hv => exact lcf_free N hc (List.mem_append_left _ (led_mem (pre_get p hθ) e1)) e2 (k _ _ θ s.heap s.toks _ h R (List.prefix_refl _) hv) hk hx hb hn
theorem led_rep' : ∀ {θ : List Addr} {os : List (Option Obj)} {k : Nat} {a : Addr} {o o' : Obj} {r : List (Addr × Obj)}, θ[k]? = some a → os[k]? = some (some o) → Rep a o o' (led θ os ++ r) (led θ (os.set k (some o')) ++ r)
  | [], _, k, _, _, _, _, h, _ => by simp at h
  | _ :: _, [], k, _, _, _, _, _, h => by simp at h
  | b :: θ, x :: os, 0, a, o, o', r, h1, h2 => by
    simp at h1 h2; subst h1 h2; exact Rep.head
  | b :: θ, x :: os, k + 1, a, o, o', r, h1, h2 => by
    have ih := led_rep' (θ := θ) (os := os) (k := k) (o' := o') (r := r) (by simpa using h1) (by simpa using h2)
    cases x with
    | none => exact ih
    | some y => exact Rep.tail ih
theorem T_append {K : AV → AS → Prop} {kD : Nat} {ws : List AV} {x : AV} (e : S.hp[kD]? = some (.lst ws)) (hl : ws.length ≤ 1000) (h : K .nil (S.put kD (.lst (ws ++ [x])))) : Tr2 X VR (fun a b => call (.builtin "list.append") [a, b]) (.ref kD) x S K := fun θ s E Q c d R p v1 v2 k => by
  obtain ⟨os, m, oo, F, N, D, l, O, V, e1, o1, _⟩ := R.get e
  cases VR.refI v1 with
  | mk hA =>
    cases OR.lstI o1 with
    | mk hvs =>
      rename_i cs n
      refine append_K F N (Rep.upd (o' := listOf (cs.toArray.push d) (n + 1)) (led_rep' hA e1) D) (fun h' F' N' => k _ _ θ h' s.toks _ h (Rel.setR (h := s.heap) hA e1 F' N' D l O V (by rw [List.push_toArray]; exact .lst (hvs.push v2))) (List.prefix_refl _) .nil) (by rw [List.size_toArray, ← hvs.len, sizeLine_eq]; omega)

theorem cp_tail0 {K : AS → Prop} {e elt target iter : Expr} {kI kD : Nat} {v : AV} {S1 : AS} {R : Result → Shared → Prop}
    (h : Tr1 X (fun _ _ _ => True) (assign target env) v S1 (fun (_ : Unit) S2 => Tr X (eval elt env) S2 fun x S3 => ∃ ws, S3.hp[kD]? = some (.lst ws) ∧ ws.length ≤ 1000 ∧ TrCp X e kI kD env (S3.put kD (.lst (ws ++ [x]))) K))
    {θ : List Addr} {s : Shared} {I D : Addr} {h' : Heap} {tk : Nat} {c : Value} (R1 : Rel X.h₀ X.L X.rest S1 θ h') (p : X.θ₀ <+: θ) (hI : θ[kI]? = some I) (hD : θ[kD]? = some D) (hv : VR θ v c)
    (kk : ∀ S' θ' h' tk', K S' → Rel X.h₀ X.L X.rest S' θ' h' → θ <+: θ' → R (.ok .next) { s with heap := h', toks := tk' }) :
    wpAny (model X.prog X.w) X.A (assign target env c) (fun _ s₂ => wpAny (model X.prog X.w) X.A (eval elt env) (fun x s₄ => wpAny (model X.prog X.w) X.A (call (.builtin "list.append") [.ref D, x]) (fun _ s₅ =>
      codeAny (model X.prog X.w) X.A (.compLoop e 0 (.ref I) (.ref D) env) R s₅) NoE s₄) NoE s₂) NoE { s with heap := h', toks := tk } := by
  refine h θ { s with heap := h', toks := tk } _ _ c R1 p hv fun _ S2 θ2 h2 tk2 _ k2 R2 p2 _ => k2 θ2 _ _ _ R2 (p.trans p2) fun x S3 θ3 h3 tk3 cx k3 R3 p3 vx => ?_
  obtain ⟨ws, e1, hl, hk⟩ := k3
  have q := p2.trans p3
  refine T_append (X := X) (K := fun _ S4 => TrCp X e kI kD env S4 K) e1 hl hk θ3 _ _ _ (.ref D) cx R3 (p.trans q) (.ref (pre_get q hD)) vx fun _ S4 θ4 h4 tk4 _ k4 R4 p4 _ => ?_
  have q' := q.trans p4
  exact k4 θ4 _ I D R R4 (p.trans q') (pre_get q' hI) (pre_get q' hD) fun S' θ' h' tk' k' R' p' => kk S' θ' h' tk' k' R' (q'.trans p')
theorem cp_tail1 {K : AS → Prop} {e elt target iter t : Expr} {kI kD : Nat} {v : AV} {S1 : AS} {R : Result → Shared → Prop}
    (h : Tr1 X (fun _ _ _ => True) (assign target env) v S1 (fun (_ : Unit) S2 => TrB X (PySem.isTrue t env (eval t env)) S2 fun b S2' => (b = true → Tr X (eval elt env) S2' fun x S3 => ∃ ws, S3.hp[kD]? = some (.lst ws) ∧ ws.length ≤ 1000 ∧ TrCp X e kI kD env (S3.put kD (.lst (ws ++ [x]))) K) ∧ (b = false → TrCp X e kI kD env S2' K)))
    {θ : List Addr} {s : Shared} {I D : Addr} {h' : Heap} {tk : Nat} {c : Value} (R1 : Rel X.h₀ X.L X.rest S1 θ h') (p : X.θ₀ <+: θ) (hI : θ[kI]? = some I) (hD : θ[kD]? = some D) (hv : VR θ v c)
    (kk : ∀ S' θ' h' tk', K S' → Rel X.h₀ X.L X.rest S' θ' h' → θ <+: θ' → R (.ok .next) { s with heap := h', toks := tk' }) :
    wpAny (model X.prog X.w) X.A (assign target env c) (fun _ s₂ => wpAny (model X.prog X.w) X.A (PySem.isTrue t env (eval t env)) (fun ok s₃ => if ok = true then wpAny (model X.prog X.w) X.A (eval elt env) (fun x s₄ => wpAny (model X.prog X.w) X.A (call (.builtin "list.append") [.ref D, x]) (fun _ s₅ =>
      codeAny (model X.prog X.w) X.A (.compLoop e 0 (.ref I) (.ref D) env) R s₅) NoE s₄) NoE s₃ else codeAny (model X.prog X.w) X.A (.compLoop e 0 (.ref I) (.ref D) env) R s₃) NoE s₂) NoE { s with heap := h', toks := tk } := by
  refine h θ { s with heap := h', toks := tk } _ _ c R1 p hv fun _ S2 θ2 h2 tk2 _ k2 R2 p2 _ => k2 θ2 _ _ _ R2 (p.trans p2) fun b S2' θ2' h2' tk2' cb kb R2' p2' vb => ?_
  subst vb
  have q0 := p2.trans p2'
  cases cb with
  | false =>
    rw [if_neg (by decide)]
    exact kb.2 rfl θ2' _ I D R R2' (p.trans q0) (pre_get q0 hI) (pre_get q0 hD) fun S' θ' h' tk' k' R' p' => kk S' θ' h' tk' k' R' (q0.trans p')
  | true =>
    rw [if_pos rfl]
    refine kb.1 rfl θ2' _ _ _ R2' (p.trans q0) fun x S3 θ3 h3 tk3 cx k3 R3 p3 vx => ?_
    obtain ⟨ws, e1, hl, hk⟩ := k3
    have q := q0.trans p3
    refine T_append (X := X) (K := fun _ S4 => TrCp X e kI kD env S4 K) e1 hl hk θ3 _ _ _ (.ref D) cx R3 (p.trans q) (.ref (pre_get q hD)) vx fun _ S4 θ4 h4 tk4 _ k4 R4 p4 _ => ?_
    have q' := q.trans p4
    exact k4 θ4 _ I D R R4 (p.trans q') (pre_get q' hI) (pre_get q' hD) fun S' θ' h' tk' k' R' p' => kk S' θ' h' tk' k' R' (q'.trans p')
/-- what a turn does with the value v of the source -/
noncomputable def Turn (X : Cx) (elt target iter : Expr) (ifs : List Expr) (scope : Scope) (pos : Pos) (kI kD : Nat) (env : Env) (v : AV) (S1 : AS) (K : AS → Prop) : Prop :=
  match ifs with
  | [] => Tr1 X (fun _ _ _ => True) (assign target env) v S1 (fun (_ : Unit) S2 => Tr X (eval elt env) S2 fun x S3 => ∃ ws, S3.hp[kD]? = some (.lst ws) ∧ ws.length ≤ 1000 ∧ TrCp X (.ListComp elt [⟨target, iter, ifs, 0⟩] scope pos) kI kD env (S3.put kD (.lst (ws ++ [x]))) K)
  | [t] => Tr1 X (fun _ _ _ => True) (assign target env) v S1 (fun (_ : Unit) S2 => TrB X (PySem.isTrue t env (eval t env)) S2 fun b S2' => (b = true → Tr X (eval elt env) S2' fun x S3 => ∃ ws, S3.hp[kD]? = some (.lst ws) ∧ ws.length ≤ 1000 ∧ TrCp X (.ListComp elt [⟨target, iter, ifs, 0⟩] scope pos) kI kD env (S3.put kD (.lst (ws ++ [x]))) K) ∧ (b = false → TrCp X (.ListComp elt [⟨target, iter, ifs, 0⟩] scope pos) kI kD env S2' K))
  | _ => False
theorem cp_turn {K : AS → Prop} {elt target iter : Expr} {ifs : List Expr} {pos : Pos} {kI kD : Nat} {v : AV} {S1 : AS} {R : Result → Shared → Prop} {s : Shared} {θ : List Addr} {I D : Addr} (h : Turn X elt target iter ifs scope pos kI kD env v S1 K)
    (p : X.θ₀ <+: θ) (hI : θ[kI]? = some I) (hD : θ[kD]? = some D) (kk : ∀ S' θ' h' tk', K S' → Rel X.h₀ X.L X.rest S' θ' h' → θ <+: θ' → R (.ok .next) { s with heap := h', toks := tk' })
    (hn : ∀ (R' : Result → Shared → Prop) (G : Value → Shared → Prop), (∀ c θ' h' tk, Rel X.h₀ X.L X.rest S1 θ' h' → θ <+: θ' → VR θ' v c → G c { s with heap := h', toks := tk }) →
      wpAny (model X.prog X.w) X.A (pyNext (.ref I)) (fun r s₁ => match r with | none => R' (.ok .next) s₁ | some v => wpAny (model X.prog X.w) X.A (letOwnedTupleGo target (.ref I) v) (fun _ s₁' => G v s₁') NoE s₁) NoE s) :
    codeAny (model X.prog X.w) X.A (.compLoop (.ListComp elt [⟨target, iter, ifs, 0⟩] scope pos) 0 (.ref I) (.ref D) env) R s := by
  match ifs, h with
  | [], h => exact comp_step (hn R (fun v s₁' => wpAny _ _ (assign target env v) _ NoE s₁') fun c θ' h' tk R1 p1 vc => cp_tail0 (iter := iter) h R1 (p.trans p1) (pre_get p1 hI) (pre_get p1 hD) vc fun S' θ2 h2 tk2 k2 R2 p2 => kk S' θ2 h2 tk2 k2 R2 (p1.trans p2))
  | [t], h => exact comp_stepT (hn R (fun v s₁' => wpAny _ _ (assign target env v) _ NoE s₁') fun c θ' h' tk R1 p1 vc => cp_tail1 (iter := iter) h R1 (p.trans p1) (pre_get p1 hI) (pre_get p1 hD) vc fun S' θ2 h2 tk2 k2 R2 p2 => kk S' θ2 h2 tk2 k2 R2 (p1.trans p2))
theorem cp_end {K : AS → Prop} {elt target iter : Expr} {ifs : List Expr} {pos : Pos} {S1 : AS} {R : Result → Shared → Prop} {s : Shared} {θ : List Addr} {I D : Addr} (hl : ifs.length ≤ 1) (h : K S1)
    (kk : ∀ S' θ' h' tk', K S' → Rel X.h₀ X.L X.rest S' θ' h' → θ <+: θ' → R (.ok .next) { s with heap := h', toks := tk' })
    (hn : ∀ (G : Option Value → Shared → Prop), (∀ h', Rel X.h₀ X.L X.rest S1 θ h' → G none { s with heap := h' }) → wpAny (model X.prog X.w) X.A (pyNext (.ref I)) G NoE s) :
    codeAny (model X.prog X.w) X.A (.compLoop (.ListComp elt [⟨target, iter, ifs, 0⟩] scope pos) 0 (.ref I) (.ref D) env) R s := by
  match ifs, hl with
  | [], _ => exact comp_step (hn _ fun h' R1 => kk _ θ h' s.toks h R1 (List.prefix_refl _))
  | [t], _ => exact comp_stepT (hn _ fun h' R1 => kk _ θ h' s.toks h R1 (List.prefix_refl _))
  | _ :: _ :: _, hl => exact absurd hl (by simp)
theorem TCp_list {K : AS → Prop} {elt iter : Expr} {x : Str} {px : Pos} {ifs : List Expr} {pos : Pos} {kI kD k i : Nat} {vs : List AV} {v : AV} (e1 : S.hp[kI]? = some (.li k i)) (e2 : S.hp[k]? = some (.lst vs)) (e3 : vs[i]? = some v)
    (h : Turn X elt (.Name x px) iter ifs scope pos kI kD env v (S.put kI (.li k (i + 1))) K) : TrCp X (.ListComp elt [⟨.Name x px, iter, ifs, 0⟩] scope pos) kI kD env S K := fun θ s I Dd Rr R p hI hD kk => by
  obtain ⟨os, m, oo, F, N, D, l, O, V, e4, o1, _⟩ := R.get e1
  obtain ⟨oo2, e5, o2⟩ := O.get e2
  cases OR.liI o1 with
  | mk hk hIt =>
    cases OR.lstI o2 with
    | mk hvs =>
      obtain ⟨c, hc, hr⟩ := hvs.get e3
      exact cp_turn h p hI hD kk fun R' G hG => next_list F N D (led_rep hI e4) hIt (List.mem_append_left _ (led_mem hk e5)) (At_of hc) fun h' oI' F' N' hI' =>
        letgo_name (hG c θ h' s.toks (Rel.setR (h := s.heap) hI e4 F' N' D l O V (.li hk hI')) (List.prefix_refl _) hr)
theorem TCp_list0 {K : AS → Prop} {elt iter : Expr} {x : Str} {px : Pos} {ifs : List Expr} {pos : Pos} {kI kD k i : Nat} {vs : List AV} (hl : ifs.length ≤ 1) (e1 : S.hp[kI]? = some (.li k i)) (e2 : S.hp[k]? = some (.lst vs)) (e3 : vs[i]? = none)
    (h : K (S.put kI .gone)) : TrCp X (.ListComp elt [⟨.Name x px, iter, ifs, 0⟩] scope pos) kI kD env S K := fun θ s I Dd Rr R p hI hD kk => by
  obtain ⟨os, m, oo, F, N, D, l, O, V, e4, o1, _⟩ := R.get e1
  obtain ⟨oo2, e5, o2⟩ := O.get e2
  cases OR.liI o1 with
  | mk hk hIt =>
    cases OR.lstI o2 with
    | mk hvs =>
      rename_i cs n
      have hc : cs.toArray[i]? = none := by
        rw [List.getElem?_toArray]; rw [List.getElem?_eq_none_iff] at e3 ⊢; rw [← hvs.len]; exact e3
      exact cp_end hl h kk fun G hG => next_list_end X.hh F N D (led_tak hI e4) hIt (List.mem_append_left _ (led_mem hk e5)) hc fun h' F' N' D' => hG h' (Rel.kill (h := s.heap) F' N' D' l O V)
theorem TCp_range {K : AS → Prop} {elt iter : Expr} {x : Str} {px : Pos} {ifs : List Expr} {pos : Pos} {kI kD : Nat} {y n : Int} (e1 : S.hp[kI]? = some (.ri y n)) (hn : 0 < n)
    (h : Turn X elt (.Name x px) iter ifs scope pos kI kD env (.int y) (S.put kI (.ri (y + 1) (n - 1))) K) : TrCp X (.ListComp elt [⟨.Name x px, iter, ifs, 0⟩] scope pos) kI kD env S K := fun θ s I Dd Rr R p hI hD kk => by
  obtain ⟨os, m, oo, F, N, D, l, O, V, e4, o1, _⟩ := R.get e1
  cases o1 with
  | ri => exact cp_turn h p hI hD kk fun R' G hG => next_range F N D (led_rep hI e4) hn fun h' t F' N' => letgo_name (hG _ θ h' (s.toks + 1) (Rel.setR (h := s.heap) hI e4 F' N' D l O V .ri) (List.prefix_refl _) .int)
theorem TCp_range0 {K : AS → Prop} {elt iter : Expr} {x : Str} {px : Pos} {ifs : List Expr} {pos : Pos} {kI kD : Nat} {y n : Int} (hl : ifs.length ≤ 1) (e1 : S.hp[kI]? = some (.ri y n)) (hn : n ≤ 0)
    (h : K (S.put kI .gone)) : TrCp X (.ListComp elt [⟨.Name x px, iter, ifs, 0⟩] scope pos) kI kD env S K := fun θ s I Dd Rr R p hI hD kk => by
  obtain ⟨os, m, oo, F, N, D, l, O, V, e4, o1, _⟩ := R.get e1
  cases o1 with
  | ri => exact cp_end hl h kk fun G hG => next_range_end X.hh F N D (led_tak hI e4) hn fun h' F' N' D' => hG h' (Rel.kill (h := s.heap) F' N' D' l O V)
theorem Rel.push' {h₀ h' : Heap} {L : Addr} {rest : List (Addr × Obj)} {S : AS} {θ : List Addr} {d : Addr} {o : Obj} {os : List (Option Obj)} {m : Str → Option Value} {ao : AO} (F : Fr h₀ L h' m) (N : News h₀ L h' ((d, o) :: (led θ os ++ rest))) (D : Dist (d :: (led θ os ++ rest).map (·.1)))
    (l : θ.length = os.length) (O : A2 (OR θ) S.hp os) (V : LocR θ S.loc m) (ho : OR (θ ++ [d]) ao (some o)) : Rel h₀ L rest (S.new ao) (θ ++ [d]) h' := by
  have p : θ <+: θ ++ [d] := ⟨[d], rfl⟩
  refine ⟨os ++ [some o], m, F, fun q hq => N q (led_push_mem l q hq), ?_, by simp [l], (O.mono fun _ _ q => q.mono p).push ho, V.mono p⟩
  rw [led_push l]
  refine ⟨?_⟩
  have e : ((led θ os ++ [(d, o)] ++ rest).map (·.1)).Perm (d :: (led θ os ++ rest).map (·.1)) := by
    simp only [List.map_append, List.map_cons, List.map_nil, List.append_assoc, List.cons_append, List.nil_append]
    exact List.perm_middle
  exact e.nodup_iff.mpr D.nd
theorem led_split {os : List (Option Obj)} {θ : List Addr} {k : Nat} {a : Addr} {o' : Obj} {rest : List (Addr × Obj)} (h1 : θ[k]? = some a) (h2 : ∃ o, os[k]? = some (some o)) : ∀ q ∈ led θ (os.set k (some o')) ++ rest, q = (a, o') ∨ q ∈ led θ (os.set k none) ++ rest := by
  obtain ⟨o, h2⟩ := h2
  intro q hq
  have e : (os.set k (some o')).set k none = os.set k none := List.set_set ..
  have T := led_tak (r := rest) (θ := θ) (os := os.set k (some o')) (k := k) (a := a) (o := o') h1 (by rw [List.getElem?_set_self (List.getElem?_eq_some_iff.mp h2).1])
  rw [e] at T
  clear e h1 h2
  generalize led θ (os.set k (some o')) ++ rest = l at *
  generalize led θ (os.set k none) ++ rest = r at *
  induction T with
  | head => rcases List.mem_cons.mp hq with h | h; exact .inl h; exact .inr h
  | tail _ ih =>
    rcases List.mem_cons.mp hq with rfl | h
    · exact .inr (.head _)
    · rcases ih h with h | h
      · exact .inl h
      · exact .inr (.tail _ h)
theorem TCp_enum {K : AS → Prop} {elt iter : Expr} {es : List Expr} {tj : Nat} {tp : Pos} {ifs : List Expr} {pos : Pos} {kE kD kI k i : Nat} {vs : List AV} {v : AV} (e0 : S.hp[kE]? = some (.en kI i)) (e1 : S.hp[kI]? = some (.li k i)) (e2 : S.hp[k]? = some (.lst vs)) (e3 : vs[i]? = some v) (hk1 : k ≠ kE) (hk2 : k ≠ kI) (hk3 : kE ≠ kI)
    (h : Turn X elt (.Tuple es tj tp) iter ifs scope pos kE kD env (.ref S.hp.length) (((S.put kE (.en kI (i + 1))).put kI (.li k (i + 1))).new (.tup [.int i, v])) K) : TrCp X (.ListComp elt [⟨.Tuple es tj tp, iter, ifs, 0⟩] scope pos) kE kD env S K := fun θ s I Dd Rr R p hE hD kk => by
  obtain ⟨os, m, oo, F, N, D, l, O, V, e4, o1, _⟩ := R.get e0
  obtain ⟨oo2, e5, o2⟩ := O.get e1
  obtain ⟨oo3, e6, o3⟩ := O.get e2
  cases o1 with
  | en hIt =>
    rename_i aI old
    cases OR.liI o2 with
    | mk hk hLI =>
      rename_i al oI
      cases OR.lstI o3 with
      | mk hvs =>
        rename_i cs n
        obtain ⟨c, hc, hr⟩ := hvs.get e3
        have T1 := led_tak (r := X.rest) hE e4
        have T2 := led_tak (θ := θ) (os := os.set kE none) (r := X.rest) hIt (by rw [List.getElem?_set_ne hk3]; exact e5)
        have hlm : (al, listOf cs.toArray n) ∈ led θ ((os.set kE none).set kI none) ++ X.rest := List.mem_append_left _ (led_mem hk (by rw [List.getElem?_set_ne (Ne.symm hk2), List.getElem?_set_ne (Ne.symm hk1)]; exact e6))
        refine cp_turn h p hE hD kk fun R' G hG => next_enum F N D T1 T2 hLI hlm (At_of hc) fun T t h' oI' F' N' D' hI' => ?_
        have pT : θ <+: θ ++ [T] := ⟨[T], rfl⟩
        have mkR : ∀ h2 (own : Value), Fr X.h₀ X.L h2 m → News X.h₀ X.L h2 ((T, tupOf #[.int (i : Int) t, c] 0) :: (I, enOf .none aI ((i : Int) + 1) c) :: (aI, oI') :: (led θ ((os.set kE none).set kI none) ++ X.rest)) → Rel X.h₀ X.L X.rest (((S.put kE (.en kI (i + 1))).put kI (.li k (i + 1))).new (.tup [.int i, v])) (θ ++ [T]) h2 := by
          intro h2 _ F2 N2
          have hp : ((led θ ((os.set kE (some (enOf .none aI ((i : Int) + 1) c))).set kI (some oI')) ++ X.rest).map (·.1)) = (led θ os ++ X.rest).map (·.1) := by
            rw [led_rep_map (os := os.set kE (some (enOf .none aI ((i : Int) + 1) c))) hIt (by rw [List.getElem?_set_ne hk3]; exact e5), led_rep_map hE e4]
          have sub : ∀ q ∈ led θ ((os.set kE (some (enOf .none aI ((i : Int) + 1) c))).set kI (some oI')) ++ X.rest, q ∈ (I, enOf .none aI ((i : Int) + 1) c) :: (aI, oI') :: (led θ ((os.set kE none).set kI none) ++ X.rest) := by
            intro q hq
            rcases led_split hIt ⟨oI, by rw [List.getElem?_set_ne hk3]; exact e5⟩ q hq with rfl | hq
            · exact .tail _ (.head _)
            · rw [List.set_comm _ _ hk3] at hq
              rcases led_split (os := os.set kI none) hE ⟨_, by rw [List.getElem?_set_ne (Ne.symm hk3)]; exact e4⟩ q hq with rfl | hq
              · exact .head _
              · rw [List.set_comm _ _ (Ne.symm hk3)] at hq
                exact .tail _ (.tail _ hq)
          have lt : ∀ q ∈ led θ ((os.set kE (some (enOf .none aI ((i : Int) + 1) c))).set kI (some oI')) ++ X.rest, q.1 ≠ T := by
            intro q hq e
            have nd := D'.nd
            rw [List.nodup_cons] at nd
            refine nd.1 ?_
            rcases List.mem_cons.mp (sub q hq) with rfl | hq
            · exact e ▸ List.mem_cons_self ..
            rcases List.mem_cons.mp hq with rfl | hq
            · exact e ▸ List.mem_cons_of_mem _ (List.mem_cons_self ..)
            · exact List.mem_cons_of_mem _ (List.mem_cons_of_mem _ (List.mem_map.mpr ⟨q, hq, e⟩))
          have O2 : A2 (OR θ) ((S.put kE (.en kI (i + 1))).put kI (.li k (i + 1))).hp ((os.set kE (some (enOf .none aI ((i : Int) + 1) c))).set kI (some oI')) :=
            (O.set kE (OR.en (i := i + 1) (old := c) hIt)).set kI (.li hk hI')
          refine Rel.push' (S := (S.put kE (.en kI (i + 1))).put kI (.li k (i + 1))) F2 (fun q hq => ?_) ⟨List.nodup_cons.mpr ⟨fun hm => ?_, by rw [hp]; exact D.nd⟩⟩ (by simp [l]) O2 V (.tup (cs := [.int (i : Int) t, c]) (n := 0) (.cons .int (.cons (hr.mono pT) .nil)))
          · rcases List.mem_cons.mp hq with rfl | hq
            · exact N2 _ (.head _)
            · exact N2 q (.tail _ (sub q hq))
          · obtain ⟨q, hq, e⟩ := List.mem_map.mp hm
            exact lt q hq e
        refine letgo_enum (g := fun o => (T, tupOf #[.int (i : Int) t, c] 0) :: (I, o) :: (aI, oI') :: (led θ ((os.set kE none).set kI none) ++ X.rest)) F' N' D' (.tail .head) fun h2 F2 N2 => ?_
        refine hG _ _ h2 (s.toks + 1) (mkR h2 c F2 N2) pT (.ref ?_)
        rw [O.len, ← l, List.getElem?_concat_length]
theorem TCp_enum0 {K : AS → Prop} {elt iter : Expr} {es : List Expr} {tj : Nat} {tp : Pos} {ifs : List Expr} {pos : Pos} {kE kD kI k i : Nat} {vs : List AV} (hl : ifs.length ≤ 1) (e0 : S.hp[kE]? = some (.en kI i)) (e1 : S.hp[kI]? = some (.li k i)) (e2 : S.hp[k]? = some (.lst vs)) (e3 : vs[i]? = none) (hk1 : k ≠ kE) (hk2 : k ≠ kI) (hk3 : kE ≠ kI)
    (h : K ((S.put kE .gone).put kI .gone)) : TrCp X (.ListComp elt [⟨.Tuple es tj tp, iter, ifs, 0⟩] scope pos) kE kD env S K := fun θ s I Dd Rr R p hE hD kk => by
  obtain ⟨os, m, oo, F, N, D, l, O, V, e4, o1, _⟩ := R.get e0
  obtain ⟨oo2, e5, o2⟩ := O.get e1
  obtain ⟨oo3, e6, o3⟩ := O.get e2
  cases o1 with
  | en hIt =>
    cases OR.liI o2 with
    | mk hk hLI =>
      cases OR.lstI o3 with
      | mk hvs =>
        rename_i cs n
        have hc : cs.toArray[i]? = none := by
          rw [List.getElem?_toArray]; rw [List.getElem?_eq_none_iff] at e3 ⊢; rw [← hvs.len]; exact e3
        have T1 := led_tak (r := X.rest) hE e4
        have T2 := led_tak (θ := θ) (os := os.set kE none) (r := X.rest) hIt (by rw [List.getElem?_set_ne hk3]; exact e5)
        have hlm := List.mem_append_left X.rest (led_mem hk (os := (os.set kE none).set kI none) (by rw [List.getElem?_set_ne (Ne.symm hk2), List.getElem?_set_ne (Ne.symm hk1)]; exact e6))
        refine cp_end hl h kk fun G hG => next_enum_end X.hh F N D T1 T2 hLI hlm hc fun h' F' N' D' => hG h' ⟨_, m, F', N', D', by simp [l], (O.set kE .gone).set kI .gone, V⟩
end
section
variable {X : Cx} {S : AS} {env : Env}
theorem LocR.nil {θ : List Addr} {m : Str → Option Value} : LocR θ [] m := fun x v e => by cases e
theorem LocR.cons {θ : List Addr} {m : Str → Option Value} {n : Str} {v : AV} {c : Value} {l : List (Str × AV)} (h : m n = some c) (hv : VR θ v c) (r : LocR θ l m) : LocR θ ((n, v) :: l) m := fun x w e => by
  simp only [List.lookup_cons] at e
  by_cases hy : x = n
  · subst hy
    rw [beq_self_eq_true] at e
    cases e
    exact ⟨c, h, hv⟩
  · rw [beq_false_of_ne hy] at e
    exact r x w e
abbrev callF (f : Value) : List Value → Sem Value := fun cs => call f cs
/-- a frame of the program's own -/
structure Fram (X : Cx) (env : Env) (r : Nat) : Prop where
  pr : X.prog = prog
  k : (hd.heap_39 X.w.params).In X.h₀
  t : ∃ loose mean mg mb, Top hd.view_39 loose mean mg mb X.h₀
  b : ∃ A₀ base outer, Below A₀ base outer X.h₀ ∧ X.A.frames = some (env :: outer)
  f : env.frame = some X.L
  s : env.scope.kind = .function
  d : X.A.depth + r < recursionLimit
  u : X.A.units + 200 * r < cLine
noncomputable def Cx.in (X : Cx) (env : Env) (g : Heap) (L : Addr) (θ : List Addr) : Cx := { prog := X.prog, w := X.w, A := X.A.deeper env, h₀ := g, L := L, rest := X.rest, θ₀ := θ, hh := X.hh }
-- calls
theorem T_callB {K : AV → AS → Prop} {f : Str} {e : Expr} {rest : List Expr} {pos fp : Pos} {id : String} (g : Glb X env f (.builtin id)) (h : TrL X (spliced (backTo pos (starEach (e :: rest) env))) S fun vs S1 => TrLs X VR (callF (.builtin id)) vs S1 K)
    (hc : eval (.Call (.Name f fp) (e :: rest) [] pos) env = (do let __do_lift ← eval (.Name f fp) env; callWith pos __do_lift [] (backTo pos (starEach (e :: rest) env)) (backToKw pos (keywordEach [] env))) := by rfl)
    (hs : starEach (e :: rest) env = (false, eval e env) :: starEach rest env := by rfl) (ha : ((backTo pos (starEach rest env)).any fun x => x.1) = false := by rfl) : Tr X (eval (.Call (.Name f fp) (e :: rest) [] pos) env) S K := fun θ s E Q R p kk => by
  obtain ⟨os, m, F, N, D, l, O, V⟩ := R.is
  exact Call_ (g s m _ _ _ F (PyProof.Rows.callWith_builtin1 (h θ s _ _ R p fun vs S1 θ1 h1 tk1 c hk R1 p1 v1 => hk θ1 _ _ _ _ R1 (p.trans p1) v1 fun b S' θ' h' tk' a kb R' p' v => kk b S' θ' h' tk' a kb R' (p1.trans p') v) hs ha)) hc
theorem T_callT {K : AV → AS → Prop} {f : Str} {e : Expr} {rest : List Expr} {pos fp : Pos} {id : String} (g : Glb X env f (.type id)) (h : TrL X (spliced (backTo pos (starEach (e :: rest) env))) S fun vs S1 => TrLs X VR (callF (.type id)) vs S1 K)
    (hc : eval (.Call (.Name f fp) (e :: rest) [] pos) env = (do let __do_lift ← eval (.Name f fp) env; callWith pos __do_lift [] (backTo pos (starEach (e :: rest) env)) (backToKw pos (keywordEach [] env))) := by rfl)
    (hs : starEach (e :: rest) env = (false, eval e env) :: starEach rest env := by rfl) (ha : ((backTo pos (starEach rest env)).any fun x => x.1) = false := by rfl) : Tr X (eval (.Call (.Name f fp) (e :: rest) [] pos) env) S K := fun θ s E Q R p kk => by
  obtain ⟨os, m, F, N, D, l, O, V⟩ := R.is
  exact Call_ (g s m _ _ _ F (PySem.Pv.callWith_type1 (h θ s _ _ R p fun vs S1 θ1 h1 tk1 c hk R1 p1 v1 => hk θ1 _ _ _ _ R1 (p.trans p1) v1 fun b S' θ' h' tk' a kb R' p' v => kk b S' θ' h' tk' a kb R' (p1.trans p') v) hs ha)) hc
/-- a function of the program's own is called -/
theorem T_callU {K : AV → AS → Prop} {f : Str} {fa : Addr} {e : Expr} {rest : List Expr} {pos fp : Pos} {r : Nat} {env' : Env} (Fm : Fram X env' r) (g : Glb X env f (.ref fa)) (hkeep : keepIn (hd.heap_39 X.w.params) (.ref fa) = true)
    (h : TrL X (spliced (backTo pos (starEach (e :: rest) env))) S fun vs S1 => TrLs X VR (callF (.ref fa)) vs S1 K)
    (hc : eval (.Call (.Name f fp) (e :: rest) [] pos) env = (do let __do_lift ← eval (.Name f fp) env; callWith pos __do_lift [] (backTo pos (starEach (e :: rest) env)) (backToKw pos (keywordEach [] env))) := by rfl)
    (hs : starEach (e :: rest) env = (false, eval e env) :: starEach rest env := by rfl) (ha : ((backTo pos (starEach rest env)).any fun x => x.1) = false := by rfl) : Tr X (eval (.Call (.Name f fp) (e :: rest) [] pos) env) S K := fun θ s E Q R p kk => by
  obtain ⟨os, m, F, N, D, l, O, V⟩ := R.is
  refine Call_ (g s m _ _ _ F (callWith_K (h₀ := X.h₀) Fm.k hkeep (h θ s _ _ R p fun vs S1 θ1 h1 tk1 c hk R1 p1 v1 => ⟨?_, hk θ1 _ _ _ _ R1 (p.trans p1) v1 fun b S' θ' h' tk' a kb R' p' v => kk b S' θ' h' tk' a kb R' (p1.trans p') v⟩) hs ha)) hc
  obtain ⟨os1, m1, F1, _⟩ := R1.is
  exact Fm.k.keeps F1.keep
theorem abs_nat (x : Int) : (if x < 0 then -x else x) = (x.natAbs : Int) := by split <;> omega
theorem T_abs {K : AV → AS → Prop} {x : Int} (h : K (.int (x.natAbs : Int)) S) : TrLs X VR (callF (.builtin "abs")) [.int x] S K := fun θ s E Q cs R p v k => by
  cases v with
  | cons v1 v2 => cases v1; cases v2; exact call_abs_int fun u tk => by rw [abs_nat]; exact k _ _ θ s.heap tk _ h R (List.prefix_refl _) .int
theorem T_len {K : AV → AS → Prop} {k : Nat} {vs : List AV} (e : S.hp[k]? = some (.lst vs)) (hl : vs.length ≤ 1000) (h : K (.int (vs.length : Int)) S) : TrLs X VR (callF (.builtin "len")) [.ref k] S K := fun θ s E Q cs R p v kk => by
  obtain ⟨os, m, oo, F, N, D, l, O, V, e1, o1, _⟩ := R.get e
  cases v with
  | cons v1 v2 =>
    cases v2
    cases VR.refI v1 with
    | mk hA =>
      cases OR.lstI o1 with
      | mk hvs => exact kun_lenL ⟨_, (N _ (List.mem_append_left _ (led_mem hA e1))).1, rfl, _, rfl⟩ (by rw [List.size_toArray, hvs.len]) (by omega) (kk _ _ θ s.heap _ _ h R (List.prefix_refl _) .int)
theorem T_min {K : AV → AS → Prop} {x y : Int} (h : K (.int (if y < x then y else x)) S) : TrLs X VR (callF (.builtin "min")) [.int x, .int y] S K := fun θ s E Q cs R p v kk => by
  obtain ⟨os, m, F, N, D, l, O, V⟩ := R.is
  cases v with
  | cons v1 v2 =>
    cases v2 with
    | cons v2 v3 => cases v1; cases v2; cases v3; exact min_two_N X.hh F N fun h' tk F' N' => kk _ _ θ h' tk _ h ⟨os, m, F', N', D, l, O, V⟩ (List.prefix_refl _) .int
theorem T_max {K : AV → AS → Prop} {x y : Int} (h : K (.int (if y > x then y else x)) S) : TrLs X VR (callF (.builtin "max")) [.int x, .int y] S K := fun θ s E Q cs R p v kk => by
  obtain ⟨os, m, F, N, D, l, O, V⟩ := R.is
  cases v with
  | cons v1 v2 =>
    cases v2 with
    | cons v2 v3 => cases v1; cases v2; cases v3; exact max_two_N X.hh F N fun h' tk F' N' => kk _ _ θ h' tk _ h ⟨os, m, F', N', D, l, O, V⟩ (List.prefix_refl _) .int
theorem T_listOf {K : AV → AS → Prop} {k : Nat} {vs : List AV} (e : S.hp[k]? = some (.lst vs)) (hl : vs.length ≤ 1000) (h : K (.ref S.hp.length) (S.new (.lst vs))) : TrLs X VR (callF (.type "list")) [.ref k] S K := fun θ s E Q cs R p v kk => by
  obtain ⟨os, m, oo, F, N, D, l, O, V, e1, o1, _⟩ := R.get e
  cases v with
  | cons v1 v2 =>
    cases v2
    cases VR.refI v1 with
    | mk hA =>
      cases OR.lstI o1 with
      | mk hvs =>
        rename_i cs n
        refine kup_listOf F N (List.mem_append_left _ (led_mem hA e1)) rfl (fun d c h' F' N' ld => ?_) (by have := hvs.len; rw [sizeLine_eq]; simp; omega)
        refine kk _ _ _ h' s.toks _ h (Rel.push F' N' D ld l O V (.lst (by simpa using hvs.mono fun _ _ q => q.mono ⟨[d], rfl⟩))) ⟨[d], rfl⟩ (.ref ?_)
        rw [O.len, ← l, List.getElem?_concat_length]
end
section
variable {X : Cx} {S : AS} {env : Env}
/-- what the cells of a new frame hold -/
inductive CV (θ : List Addr) (cm : Str → Option Value) : List (Str × Addr) → List AO → Prop
  | nil : CV θ cm [] []
  | zero {n c cs as} : cm n = none → CV θ cm cs as → CV θ cm ((n, c) :: cs) (.cell none :: as)
  | one {n c cs as v x} : cm n = some x → VR θ v x → CV θ cm cs as → CV θ cm ((n, c) :: cs) (.cell (some v) :: as)
theorem CV.or {θ : List Addr} {cm : Str → Option Value} : ∀ {cs : List (Str × Addr)} {as : List AO} {cells : List (Addr × Obj)}, CV θ cm cs as → CellsAre cm cs cells → A2 (OR θ) as (cells.map fun p => some p.2)
  | [], _, _, h, y => by cases h; cases y; exact .nil
  | (n, c) :: cs, _, _, h, y => by
    cases y with
    | cons hd y =>
      cases h with
      | zero e r => exact .cons (.cell0 (by rw [hd, e])) (r.or y)
      | one e v r => exact .cons (.cell1 (by rw [hd, e]) v) (r.or y)
theorem led_append : ∀ {θ θ2 : List Addr} {os os2 : List (Option Obj)}, θ.length = os.length → led (θ ++ θ2) (os ++ os2) = led θ os ++ led θ2 os2
  | [], _, [], _, _ => rfl
  | _ :: _, _, [], _, h => by simp at h
  | [], _, _ :: _, _, h => by simp at h
  | b :: θ, θ2, x :: os, os2, h => by
    have ih := led_append (θ := θ) (θ2 := θ2) (os := os) (os2 := os2) (by simpa using h)
    cases x with
    | none => exact ih
    | some y => exact congrArg ((b, y) :: ·) ih
theorem led_cells : ∀ (cells : List (Addr × Obj)), led (cells.map (·.1)) (cells.map fun p => some p.2) = cells
  | [] => rfl
  | (a, o) :: r => congrArg ((a, o) :: ·) (led_cells r)
end
section
variable {X : Cx} {S : AS} {env : Env} {scope : Scope} {cl : List (Str × Addr)} {C : Addr}
/-- a comprehension with one cell of its own -/
theorem T_compC {K : AV → AS → Prop} {elt target iter : Expr} {ifs : List Expr} {scope : Scope} {cl' : List (Str × Addr)} {pos : Pos} {x : Str} (hclos : closureFor scope env = pure cl') (hkind : scope.kind = .function) (hnames : ∀ y ∈ scope.names, y.2 = .local → scope.names.lookup y.1 = some .local)
    (hc : ∀ n, cellsFrom n scope.names cl' = (x, n) :: cl') (hp : ∀ g, pushCells g scope.names = g.push { cls := .type "cell", data := .cell none })
    (h : TrIt X iter env S fun kI S1 => (∃ ao, S1.hp[kI]? = some ao ∧ ((∃ k i, ao = .li k i) ∨ (∃ x n, ao = .ri x n) ∨ ∃ k i, ao = .en k i)) ∧ ∀ C c θ₁, X.θ₀ <+: θ₁ → θ₁[S1.hp.length + 1]? = some C → θ₁[S1.hp.length + 2]? = some c → TrCp (X.at θ₁) (.ListComp elt [⟨target, iter, ifs, 0⟩] scope pos) kI S1.hp.length (compEnvC scope ((x, c) :: cl') C env) (((S1.new (.lst [])).new (.ns [])).new (.cell none)) fun S2 => (∃ l, S2.hp[S1.hp.length + 1]? = some (.ns l)) ∧ K (.ref S1.hp.length) (S2.put (S1.hp.length + 1) .gone))
    (hs : ∀ x, foldedSetIterable iter env x = pure x := by intro _; rfl) : Tr X (eval (.ListComp elt [⟨target, iter, ifs, 0⟩] scope pos) env) S K := fun θ s E Q R p kk => by
  obtain ⟨_, m0, F0, _⟩ := R.is
  refine comp_in F0 hclos hkind hnames (h θ s _ R p fun kI S1 θ1 h1 tk1 I hK R1 p1 hI => ?_) hs
  obtain ⟨⟨ao, e1, hao⟩, hK⟩ := hK
  obtain ⟨os, m, oo, F, N, D, l, O, V, e4, o1, _⟩ := R1.get e1
  obtain ⟨oI, e0, hself⟩ := it_self (X := X) (I := I) o1 hao
  subst e0
  refine CompInC.start F N (List.mem_append_left _ (led_mem hI e4)) hc hp hself rfl fun C D' c oC oc h2 F2 hC hoc N2 l1 l2 l3 => ?_
  have p2 : θ1 <+: θ1 ++ [D'] := ⟨[D'], rfl⟩
  have O2 : A2 (OR (θ1 ++ [D'])) (S1.new (.lst [])).hp (os ++ [some (listOf #[] 0)]) := (O.mono fun _ _ q => q.mono p2).push (.lst (cs := []) .nil)
  have hl : (θ1 ++ [D']).length = (os ++ [some (listOf #[] 0)]).length := by simp [l]
  have D2 := led_push_dist (o := listOf #[] 0) l D l1
  have l2' : ∀ q ∈ led (θ1 ++ [D']) (os ++ [some (listOf #[] 0)]) ++ X.rest, q.1 < C := fun q hq => l2 q (led_push_mem l q hq)
  have p2' : θ1 ++ [D'] <+: θ1 ++ [D'] ++ [C] := ⟨[C], rfl⟩
  have O3 : A2 (OR (θ1 ++ [D'] ++ [C])) ((S1.new (.lst [])).new (.ns [])).hp (os ++ [some (listOf #[] 0)] ++ [some oC]) := (O2.mono fun _ _ q => q.mono p2').push (.ns hC fun x v e => by cases e)
  have hl3 : (θ1 ++ [D'] ++ [C]).length = (os ++ [some (listOf #[] 0)] ++ [some oC]).length := by simp [l]
  have m3 : ∀ q ∈ led (θ1 ++ [D'] ++ [C]) (os ++ [some (listOf #[] 0)] ++ [some oC]) ++ X.rest, q ∈ (C, oC) :: (D', listOf #[] 0) :: (led θ1 os ++ X.rest) := fun q hq => by
    rcases List.mem_cons.mp (led_push_mem hl q hq) with h | h
    · exact h ▸ .head _
    · exact .tail _ (led_push_mem l q h)
  have R3 : Rel X.h₀ X.L X.rest (((S1.new (.lst [])).new (.ns [])).new (.cell none)) (θ1 ++ [D'] ++ [C] ++ [c]) h2 := by
    refine Rel.push (S := (S1.new (.lst [])).new (.ns [])) (os := os ++ [some (listOf #[] 0)] ++ [some oC]) F2 (fun q hq => ?_) (led_push_dist hl D2 l2') (fun q hq => l3 q (m3 q hq)) hl3 O3 (V.mono (p2.trans p2')) (.cell0 hoc)
    rcases List.mem_cons.mp hq with rfl | hq
    · exact N2 _ (.head _)
    · exact N2 q (.tail _ (m3 q hq))
  have e0 : S1.hp.length = θ1.length := by rw [O.len, l]
  have eD : (θ1 ++ [D'] ++ [C] ++ [c])[S1.hp.length]? = some D' := by rw [e0]; simp
  have eC : (θ1 ++ [D'] ++ [C] ++ [c])[S1.hp.length + 1]? = some C := by rw [e0]; simp
  have ec : (θ1 ++ [D'] ++ [C] ++ [c])[S1.hp.length + 2]? = some c := by rw [e0]; simp
  have p3 : θ1 <+: θ1 ++ [D'] ++ [C] ++ [c] := ⟨[D', C, c], by simp⟩
  refine hK C c (θ1 ++ [D'] ++ [C] ++ [c]) ((p.trans p1).trans p3) eC ec _ _ I D' _ R3 (List.prefix_refl _) (pre_get p3 hI) eD fun S4 θ4 h4 tk4 k4 R4 p4 => ?_
  obtain ⟨⟨lc, e5⟩, k5⟩ := k4
  obtain ⟨os4, m4, oo4, F4, N4, D4, l4, O4, V4, e6, o4, _⟩ := R4.get e5
  cases o4 with
  | ns hC4 hl4 => exact CompOut.intro F4 N4 D4 (led_tak (pre_get p4 eC) e6) hC4 fun h' F' N' D' => kk _ _ θ4 h' tk4 _ k5 (Rel.kill (h := h4) F' N' D' l4 O4 V4) ((p1.trans p3).trans p4) (.ref (pre_get p4 eD))
theorem T_storePC {K : AS → Prop} {x : Str} {v : AV} {v₀ : Option AV} {c : Addr} {j : Nat} (hc : cl.lookup x = some c) (hθ : X.θ₀[j]? = some c) (hj : S.hp[j]? = some (.cell v₀)) (h : K (S.put j (.cell (some v)))) (hl : (compEnvC scope cl C env).kindOf x = some .cell := by rfl) (hk : (compEnvC scope cl C env).scope.kind = .function := by rfl) :
    Tr1 X (fun _ _ _ => True) (storeName (compEnvC scope cl C env) x) v S (fun (_ : Unit) S' => K S') := fun θ s E Q cv R p v1 k => by
  obtain ⟨os, m, oo, F, N, D, l, O, V, e1, o1, _⟩ := R.get hj
  have hθ' := pre_get p hθ
  have go : ∀ (o : Obj) (w : Option Value), oo = some o → o.data = .cell w → wpAny (model X.prog X.w) X.A (storeName (compEnvC scope cl C env) x cv) Q E s := by
    intro o w he hd
    subst he
    exact store_cell F N hc D (led_rep hθ' e1) hd hl (fun h' o' F' N' hd' => k () _ θ h' s.toks () h (Rel.setR (h := s.heap) hθ' e1 F' N' D l O V (.cell1 hd' v1)) (List.prefix_refl _) trivial) hk
  cases o1 with
  | cell0 e2 => exact go _ _ rfl e2
  | cell1 e2 hv => exact go _ _ rfl e2
theorem T_namePC {K : AV → AS → Prop} {x : Str} {v : AV} {pos : Pos} {c : Addr} {j : Nat} (hc : cl.lookup x = some c) (hθ : X.θ₀[j]? = some c) (hj : S.hp[j]? = some (.cell (some v))) (h : K v S)
    (hk : (compEnvC scope cl C env).scope.kind = .function := by rfl) (hx : (compEnvC scope cl C env).kindOf x = some .cell := by rfl) (hb : (x == ("__debug__" : Str)) = false := by decide) : Tr X (eval (.Name x pos) (compEnvC scope cl C env)) S K := fun θ s E Q R p k => by
  obtain ⟨os, m, oo, F, N, D, l, O, V, e1, o1, _⟩ := R.get hj
  cases o1 with
  | cell1 e2 hv => exact lcf_cell N hc (List.mem_append_left _ (led_mem (pre_get p hθ) e1)) e2 (k _ _ θ s.heap s.toks _ h R (List.prefix_refl _) hv) hk hx hb
end
/-- the objects of the chosen handles are put away -/
noncomputable def kill : List Nat → List (Option Obj) → List (Option Obj)
  | [], os => os
  | k :: ρ, os => kill ρ (os.set k none)
theorem kill_len : ∀ (ρ : List Nat) (os : List (Option Obj)), (kill ρ os).length = os.length
  | [], _ => rfl
  | k :: ρ, os => by rw [kill, kill_len]; simp
theorem kill_get : ∀ (ρ : List Nat) (os : List (Option Obj)) (j : Nat), j ∉ ρ → (kill ρ os)[j]? = os[j]?
  | [], _, _, _ => rfl
  | k :: ρ, os, j, h => by
    simp only [List.mem_cons, not_or] at h
    rw [kill, kill_get ρ _ j h.2, List.getElem?_set_ne (Ne.symm h.1)]
theorem kill_none : ∀ (ρ : List Nat) (os : List (Option Obj)) (j : Nat), j ∈ ρ → j < os.length → (kill ρ os)[j]? = some none
  | k :: ρ, os, j, h, hl => by
    rw [kill]
    by_cases hj : j ∈ ρ
    · exact kill_none ρ _ j hj (by simpa using hl)
    · rw [kill_get ρ _ j hj]
      rcases List.mem_cons.mp h with rfl | h
      · rw [List.getElem?_set_self hl]
      · exact absurd h hj
theorem Tak.perm {d : Addr} {o : Obj} {l r : List (Addr × Obj)} (T : Tak d o l r) : l.Perm ((d, o) :: r) := by
  induction T with
  | head => exact .refl _
  | tail _ ih => exact (ih.cons _).trans (.swap ..)
noncomputable def pick {α : Type} (ρ : List Nat) (l : List α) (d : α) : List α := ρ.map fun k => (l[k]?).getD d
/-- the ledger, the chosen handles ahead -/
theorem sel_perm : ∀ {ρ : List Nat} {θ : List Addr} {os : List (Option Obj)} {R : List (Addr × Obj)}, ρ.Nodup → θ.length = os.length → (∀ k ∈ ρ, k < θ.length) → (led θ os ++ R).Perm (led (pick ρ θ 0) (pick ρ os none) ++ (led θ (kill ρ os) ++ R))
  | [], _, _, _, _, _, _ => .refl _
  | k :: ρ, θ, os, R, nd, l, hk => by
    have nd' := List.nodup_cons.mp nd
    have hk0 := hk k (.head _)
    have ih := sel_perm (ρ := ρ) (θ := θ) (os := os.set k none) (R := R) nd'.2 (by simpa using l) (fun j hj => hk j (.tail _ hj))
    have e : pick ρ (os.set k none) none = pick ρ os none := by
      unfold pick
      refine List.map_congr_left fun j hj => ?_
      rw [List.getElem?_set_ne (fun h : k = j => nd'.1 (by rw [h]; exact hj))]
    rw [e] at ih
    have e1 : θ[k]? = some (θ[k]'hk0) := List.getElem?_eq_some_iff.mpr ⟨hk0, rfl⟩
    have hk1 : k < os.length := l ▸ hk0
    have e2 : os[k]? = some (os[k]'hk1) := List.getElem?_eq_some_iff.mpr ⟨hk1, rfl⟩
    show (led θ os ++ R).Perm (led (((θ[k]?).getD 0) :: pick ρ θ 0) (((os[k]?).getD none) :: pick ρ os none) ++ (led θ (kill ρ (os.set k none)) ++ R))
    rw [e1, e2]
    simp only [Option.getD_some]
    cases ho : os[k]'hk1 with
    | none =>
      have : os.set k none = os := by
        refine List.ext_getElem? fun j => ?_
        by_cases hj : k = j
        · subst hj; rw [List.getElem?_set_self hk1, e2, ho]
        · rw [List.getElem?_set_ne hj]
      rw [this] at ih ⊢
      exact ih
    | some o =>
      have T := led_tak (r := R) e1 (by rw [e2, ho])
      exact T.perm.trans (ih.cons _)
theorem pick_get {α : Type} {ρ : List Nat} {l : List α} {d : α} {i k : Nat} {a : α} (h : ρ[i]? = some k) (e : l[k]? = some a) : (pick ρ l d)[i]? = some a := by
  unfold pick; rw [List.getElem?_map, h]; simp [e]
/-- values of the big heap, seen from the chosen part -/
noncomputable def rnV (ρ : List Nat) : AV → AV
  | .ref k => .ref ((ρ[k]?).getD 0)
  | v => v
noncomputable def rnO (ρ : List Nat) : AO → AO
  | .lst vs => .lst (vs.map (rnV ρ))
  | .tup vs => .tup (vs.map (rnV ρ))
  | .cell (some v) => .cell (some (rnV ρ v))
  | o => o
/-- no handle beyond n; lists, tuples and cells alone -/
noncomputable def okV (n : Nat) : AV → Bool
  | .ref k => decide (k < n)
  | _ => true
noncomputable def okO (n : Nat) : AO → Bool
  | .lst vs => vs.all (okV n)
  | .tup vs => vs.all (okV n)
  | .cell (some v) => okV n v
  | .cell none => true
  | .gone => true
  | .acell => true
  | .ri _ _ => true
  | .il _ => true
  | _ => false
theorem VR.down {ρ : List Nat} {θ : List Addr} {v : AV} {c : Value} (h : VR θ (rnV ρ v) c) (ok : okV ρ.length v = true) : VR (pick ρ θ 0) v c := by
  cases v with
  | ref k =>
    simp only [okV, decide_eq_true_eq] at ok
    have e : ρ[k]? = some (ρ[k]'ok) := List.getElem?_eq_some_iff.mpr ⟨ok, rfl⟩
    simp only [rnV, e, Option.getD_some] at h
    cases h with
    | ref h => exact .ref (pick_get e h)
  | int x => cases h; exact .int
  | bool x => cases h; exact .bool
  | nil => cases h; exact .nil
  | fn x => cases h; exact .fn
theorem A2.down {ρ : List Nat} {θ : List Addr} : ∀ {vs : List AV} {cs : List Value}, A2 (VR θ) (vs.map (rnV ρ)) cs → vs.all (okV ρ.length) = true → A2 (VR (pick ρ θ 0)) vs cs
  | [], _, h, _ => by cases h; exact .nil
  | v :: vs, _, h, ok => by
    simp only [List.all_cons, Bool.and_eq_true] at ok
    cases h with
    | cons h r => exact .cons (h.down ok.1) (A2.down r ok.2)
theorem OR.down {ρ : List Nat} {θ : List Addr} {o : AO} {c : Option Obj} (h : OR θ (rnO ρ o) c) (ok : okO ρ.length o = true) : OR (pick ρ θ 0) o c := by
  cases o with
  | lst vs => cases h with | lst h => exact .lst (A2.down h ok)
  | tup vs => cases h with | tup h => exact .tup (A2.down h ok)
  | cell v =>
    cases v with
    | none => cases h with | cell0 h => exact .cell0 h
    | some v => cases h with | cell1 h h' => exact .cell1 h (h'.down ok)
  | gone => cases h; exact .gone
  | acell => cases h with | acell h => exact .acell h
  | li _ _ => cases ok
  | ti _ _ => cases ok
  | ri _ _ => cases h; exact .ri
  | il _ => cases h with | il h => exact .il h
  | en _ _ => cases ok
  | ns _ => cases ok
theorem A2.of_get {α β : Type} {R : α → β → Prop} : ∀ {as : List α} {bs : List β}, as.length = bs.length → (∀ (k : Nat) (a : α) (b : β), as[k]? = some a → bs[k]? = some b → R a b) → A2 R as bs
  | [], [], _, _ => .nil
  | a :: as, b :: bs, h, f => .cons (f 0 a b rfl rfl) (A2.of_get (by simpa using h) fun k x y e1 e2 => f (k + 1) x y (by simpa using e1) (by simpa using e2))
/-- what the names hold, seen from the chosen part -/
noncomputable def dnL (ρ : List Nat) (l l₀ : List (Str × AV)) : Prop := ∀ x v, l₀.lookup x = some v → l.lookup x = some (rnV ρ v) ∧ okV ρ.length v = true
/-- a cell's content is forgotten -/
theorem Rel.weak {h₀ h : Heap} {L : Addr} {rest : List (Addr × Obj)} {S : AS} {θ : List Addr} {k : Nat} {v : Option AV} (R : Rel h₀ L rest S θ h) (e : S.hp[k]? = some (.cell v)) : Rel h₀ L rest (S.put k .acell) θ h := by
  obtain ⟨os, m, oo, F, N, D, l, O, V, e1, o1, _⟩ := R.get e
  have e2 : os.set k oo = os := by
    refine List.ext_getElem? fun j => ?_
    by_cases hj : k = j
    · subst hj; rw [List.getElem?_set_self (List.getElem?_eq_some_iff.mp e1).1, e1]
    · rw [List.getElem?_set_ne hj]
  have ho : OR θ .acell oo := by
    cases o1 with
    | cell0 h => exact .acell h
    | cell1 h _ => exact .acell h
  exact ⟨os, m, F, N, D, l, e2 ▸ O.set k ho, V⟩
/-- garbage is forgotten: the chosen handles alone, in their new order -/
theorem Rel.gc {h₀ h : Heap} {L : Addr} {rest : List (Addr × Obj)} {S S₀ : AS} {θ : List Addr} {ρ : List Nat} (R : Rel h₀ L rest S θ h) (nd : ρ.Nodup) (hlen : ρ.length = S₀.hp.length) (hS : ∀ (i k : Nat) (ao : AO), ρ[i]? = some k → S₀.hp[i]? = some ao → S.hp[k]? = some (rnO ρ ao) ∧ okO ρ.length ao = true)
    (hl : dnL ρ S.loc S₀.loc) : Rel h₀ L rest S₀ (pick ρ θ 0) h := by
  obtain ⟨os, m, F, N, D, l, O, V⟩ := R.is
  have hk : ∀ k ∈ ρ, k < θ.length := fun k hk => by
    obtain ⟨i, hi⟩ := List.mem_iff_getElem?.mp hk
    have hi' : i < S₀.hp.length := hlen ▸ (List.getElem?_eq_some_iff.mp hi).1
    have := (hS i k _ hi (List.getElem?_eq_some_iff.mpr ⟨hi', rfl⟩)).1
    have := (List.getElem?_eq_some_iff.mp this).1
    rw [l, ← O.len]; exact this
  have P := sel_perm (R := rest) nd l hk
  have sub : ∀ q ∈ led (pick ρ θ 0) (pick ρ os none) ++ rest, q ∈ led θ os ++ rest := fun q hq => P.mem_iff.mpr (by
    simp only [List.mem_append] at hq ⊢
    rcases hq with h | h
    · exact .inl h
    · exact .inr (.inr h))
  refine ⟨pick ρ os none, m, F, fun q hq => N q (sub q hq), ⟨?_⟩, by simp [pick], A2.of_get (by simp [pick, hlen]) fun i ao oo e1 e2 => ?_, fun x v e => ?_⟩
  · have nd2 := (P.map (·.1)).nodup_iff.mp D.nd
    refine List.Sublist.nodup ?_ nd2
    exact ((List.Sublist.refl _).append (List.sublist_append_right _ _)).map _
  · have hi : i < ρ.length := hlen ▸ (List.getElem?_eq_some_iff.mp e1).1
    have e3 : ρ[i]? = some (ρ[i]'hi) := List.getElem?_eq_some_iff.mpr ⟨hi, rfl⟩
    obtain ⟨h1, h2⟩ := hS i _ ao e3 e1
    obtain ⟨o', h3, h4⟩ := O.get h1
    have := pick_get (d := none) e3 h3
    rw [this] at e2; cases e2
    exact h4.down h2
  · obtain ⟨h1, h2⟩ := hl x v e
    obtain ⟨c, h3, h4⟩ := V x _ h1
    exact ⟨c, h3, h4.down h2⟩
/-- the same, where no handle beyond the frame's own is held on to -/
noncomputable def TrK {α β : Type} (X : Cx) (V : List Addr → β → α → Prop) (t : Sem α) (S : AS) (K : β → AS → Prop) : Prop :=
  ∀ θ s E Q, Rel X.h₀ X.L X.rest S θ s.heap → X.θ₀ <+: θ → (∀ b S' θ' h' tk' a, K b S' → Rel X.h₀ X.L X.rest S' θ' h' → X.θ₀ <+: θ' → V θ' b a → Q a { s with heap := h', toks := tk' }) → wpAny (model X.prog X.w) X.A t Q E s
noncomputable def TrKW (X : Cx) (test : Expr) (body : List Stmt) (env : Env) (S : AS) (K : AF → AS → Prop) : Prop :=
  ∀ θ s R, Rel X.h₀ X.L X.rest S θ s.heap → X.θ₀ <+: θ → (∀ f S' θ' h' tk' cf, K f S' → Rel X.h₀ X.L X.rest S' θ' h' → X.θ₀ <+: θ' → FR θ' f cf → R (.ok cf) { s with heap := h', toks := tk' }) → codeAny (model X.prog X.w) X.A (.whileLoop test body [] env) R s
noncomputable def TrKF (X : Cx) (target : Expr) (kI : Nat) (body : List Stmt) (env : Env) (S : AS) (K : AF → AS → Prop) : Prop :=
  ∀ θ s I R, Rel X.h₀ X.L X.rest S θ s.heap → X.θ₀ <+: θ → θ[kI]? = some I → (∀ f S' θ' h' tk' cf, K f S' → Rel X.h₀ X.L X.rest S' θ' h' → X.θ₀ <+: θ' → FR θ' f cf → R (.ok cf) { s with heap := h', toks := tk' }) → codeAny (model X.prog X.w) X.A (.forLoop target (.ref I) body [] env) R s
section
variable {X : Cx} {S S₀ : AS} {env : Env}
theorem TK_of {α β : Type} {V : List Addr → β → α → Prop} {t : Sem α} {K : β → AS → Prop} (h : TrG X V t S K) : TrK X V t S K := fun θ s E Q R p k => h θ s E Q R p fun b S' θ' h' tk' a kb R' p' v => k b S' θ' h' tk' a kb R' (p.trans p') v
theorem TK_mono {α β : Type} {V : List Addr → β → α → Prop} {t : Sem α} {K K' : β → AS → Prop} (h : TrK X V t S K) (hk : ∀ b S, K b S → K' b S) : TrK X V t S K' := fun θ s E Q R p k => h θ s E Q R p fun b S' θ' h' tk' a kb => k b S' θ' h' tk' a (hk _ _ kb)
theorem TK_cons {K : AF → AS → Prop} {st : Stmt} {r : List Stmt} (h : TrK X FR (exec st env) S fun f S1 => match f with | .next => TrK X FR (execs r env) S1 K | f => K f S1) : TrK X FR (execs (st :: r) env) S K :=
  fun θ s E Q R p k => wpAny_execs_cons (h θ s E _ R p fun f S1 θ1 h1 tk1 c kS R1 p1 v1 => by
    cases v1 with
    | next => exact kS θ1 _ E Q R1 p1 fun f2 S2 θ2 h2 tk2 c2 k2 R2 p2 v2 => k f2 S2 θ2 h2 tk2 c2 k2 R2 p2 v2
    | brk => exact k _ S1 θ1 h1 tk1 _ kS R1 p1 .brk
    | cont => exact k _ S1 θ1 h1 tk1 _ kS R1 p1 .cont
    | ret v => exact k _ S1 θ1 h1 tk1 _ kS R1 p1 (.ret v))
theorem TK_step {K : AF → AS → Prop} {st : Stmt} {r : List Stmt} (h : TrF X (exec st env) S fun f S1 => match f with | .next => TrK X FR (execs r env) S1 K | f => K f S1) : TrK X FR (execs (st :: r) env) S K := TK_cons (TK_of h)
theorem TK_nil {K : AF → AS → Prop} (h : K .next S) : TrK X FR (execs [] env) S K := TK_of (TF_nil h)
theorem TK_while {K : AF → AS → Prop} {test : Expr} {body : List Stmt} {pos : Pos} (h : TrKW X test body env S K) : TrK X FR (exec (.While test body [] pos) env) S K := fun θ s E Q R p k => while_in (h θ s _ R p k)
/-- what a choice of handles must keep -/
structure Gc (n : Nat) (ρ : List Nat) (S S₀ : AS) : Prop where
  nd : ρ.Nodup
  pre : ∀ i, i < n → ρ[i]? = some i
  len : ρ.length = S₀.hp.length
  hS : ∀ (i k : Nat) (ao : AO), ρ[i]? = some k → S₀.hp[i]? = some ao → S.hp[k]? = some (rnO ρ ao) ∧ okO ρ.length ao = true
  hl : dnL ρ S.loc S₀.loc
theorem Gc.pre' {n : Nat} {ρ : List Nat} (g : Gc n ρ S S₀) {θ θ₀ : List Addr} (hn : θ₀.length = n) (p : θ₀ <+: θ) : θ₀ <+: pick ρ θ 0 := by
  rw [List.prefix_iff_getElem?]
  intro i hi
  have := pre_get p (List.getElem?_eq_some_iff.mpr ⟨hi, rfl⟩)
  exact pick_get (g.pre i (hn ▸ hi)) this
theorem TK_gc {α β : Type} {V : List Addr → β → α → Prop} {t : Sem α} {K : β → AS → Prop} {n : Nat} {ρ : List Nat} (hn : X.θ₀.length = n) (g : Gc n ρ S S₀) (h : TrK X V t S₀ K) : TrK X V t S K :=
  fun θ s E Q R p k => h _ s E Q (R.gc g.nd g.len g.hS g.hl) (g.pre' hn p) k
theorem TKF_gc {K : AF → AS → Prop} {target : Expr} {kI kI' : Nat} {body : List Stmt} {n : Nat} {ρ : List Nat} (hn : X.θ₀.length = n) (g : Gc n ρ S S₀) (hk : ρ[kI']? = some kI) (h : TrKF X target kI' body env S₀ K) : TrKF X target kI body env S K :=
  fun θ s I R Rl p hI k => h _ s I R (Rl.gc g.nd g.len g.hS g.hl) (g.pre' hn p) (pick_get hk hI) k
/-- for loops, turn by turn, in the weak form -/
theorem TKF_of {K : AF → AS → Prop} {target : Expr} {kI : Nat} {body : List Stmt} (h : TrFor X target kI body env S K) : TrKF X target kI body env S K := fun θ s I R Rl p hI k => h θ s I R Rl p hI fun f S' θ' h' tk' cf kf R' p' v => k f S' θ' h' tk' cf kf R' (p.trans p') v
theorem TK_for {K : AF → AS → Prop} {target iter : Expr} {body : List Stmt} {pos : Pos} (h : TrIt X iter env S fun kI S1 => TrKF X target kI body env S1 K) (hs : ∀ x, foldedSetIterable iter env x = pure x := by intro _; rfl) : TrK X FR (exec (.For target iter body [] pos) env) S K :=
  fun θ s E Q R p k => for_in (h θ s _ R p fun kI S1 θ1 h1 tk1 I hK R1 p1 hI => hK θ1 _ I _ R1 (p.trans p1) hI k) hs
theorem TKF_range {K : AF → AS → Prop} {x : Str} {px : Pos} {kI : Nat} {y n : Int} {body : List Stmt} (e1 : S.hp[kI]? = some (.ri y n)) (hn : 0 < n)
    (h : Tr1 X (fun _ _ _ => True) (storeName env x) (.int y) (S.put kI (.ri (y + 1) (n - 1))) (fun (_ : Unit) S2 => ∀ θ₁, X.θ₀ <+: θ₁ → θ₁.length = S2.hp.length → TrK (X.at θ₁) FR (execs body env) S2 fun f S3 => match f with | .next | .cont => TrKF X (.Name x px) kI body env S3 K | .brk => K .next S3 | .ret v => K (.ret v) S3)) : TrKF X (.Name x px) kI body env S K := fun θ s I Rr R p hI kk => by
  obtain ⟨os, m, oo, F, N, D, l, O, V, e4, o1, _⟩ := R.get e1
  cases o1 with
  | ri =>
    refine for_step (next_range F N D (led_rep hI e4) hn fun h' t F' N' => ?_)
    refine letgo_name (PyProof.Rows.assign_Name (h θ { s with heap := h', toks := s.toks + 1 } _ _ (.int y t) (Rel.setR (h := s.heap) hI e4 F' N' D l O V .ri) p .int fun _ S2 θ2 h2 tk2 _ k2 R2 p2 _ => ?_))
    refine k2 θ2 (p.trans p2) (by obtain ⟨os2, m2, F2, N2, D2, l2, O2, V2⟩ := R2.is; rw [l2, O2.len]) θ2 _ _ _ R2 (List.prefix_refl _) fun f S3 θ3 h3 tk3 cf k3 R3 p3 v3 => ?_
    have q : X.θ₀ <+: θ3 := (p.trans p2).trans p3
    cases v3 with
    | next => exact k3 θ3 _ I Rr R3 q (pre_get (p2.trans p3) hI) kk
    | cont => exact k3 θ3 _ I Rr R3 q (pre_get (p2.trans p3) hI) kk
    | brk => exact kk _ S3 θ3 h3 tk3 _ k3 R3 q .next
    | ret v => exact kk _ S3 θ3 h3 tk3 _ k3 R3 q (.ret v)
theorem TKF_range0 {K : AF → AS → Prop} {x : Str} {px : Pos} {kI : Nat} {y n : Int} {body : List Stmt} (e1 : S.hp[kI]? = some (.ri y n)) (hn : n ≤ 0) (h : K .next (S.put kI .gone)) : TrKF X (.Name x px) kI body env S K := TKF_of (TFor_range0 e1 hn h)
theorem TKF_weak {K : AF → AS → Prop} {target : Expr} {kI : Nat} {body : List Stmt} {k : Nat} {v : Option AV} (e : S.hp[k]? = some (.cell v)) (h : TrKF X target kI body env (S.put k .acell) K) : TrKF X target kI body env S K := fun θ s I R Rl p hI kk => h θ s I R (Rl.weak e) p hI kk
theorem Tr1.at {α β : Type} {V : List Addr → β → α → Prop} {f : Value → Sem α} {a : AV} {K : β → AS → Prop} {θ : List Addr} (p : X.θ₀ <+: θ) (h : Tr1 X V f a S K) : Tr1 (X.at θ) V f a S K := fun θ' s E Q c R p' v k => h θ' s E Q c R (p.trans p') v k
theorem TrIt.at {e : Expr} {K : Nat → AS → Prop} {θ : List Addr} (p : X.θ₀ <+: θ) (h : TrIt X e env S K) : TrIt (X.at θ) e env S K := fun θ' s Q R p' k => h θ' s Q R (p.trans p') k
end
section
variable {X : Cx} {S : AS} {env : Env}
theorem T_enterC {K : AV → AS → Prop} {vs : List AV} {name qual : Str} {params : Arguments} {body : List Stmt} {scope : Scope} {dV kV doc pm cdv ct oc : Value} {an od : Option Addr} {osl : Array (Option Value)} {f : Addr} {names : List Str} {r : Nat} {loc : List (Str × AV)} {cas : List AO} (Fm : Fram X env (r + 1))
    (hlook : List.lookup f (hd.heap_39 X.w.params) = some { cls := oc, dict := od, data := Data.func (fnOf name qual params body scope dV kV doc pm an cdv ct), slots := osl }) (hcode : codeIn (hd.heap_39 X.w.params) cdv qual = true)
    (hb : ∀ (s : Shared) (cs : List Value), cs.length = vs.length → BindsTo s (fnOf name qual params body scope dV kV doc pm an cdv ct) ⟨cs, []⟩ (names.zip cs) ∧ ((names.zip cs).all fun y => List.lookup y.1 scope.names == some .local || List.lookup y.1 scope.names == some .cell) = true)
    (hnd : (List.map (fun x => x.1) (cellsFrom 0 scope.names [])).Nodup)
    (hl : ∀ θ cs L', A2 (VR θ) vs cs → LocR θ loc (bindL (envOfC qual scope L' f cdv).kindOf (names.zip cs) fun _ => none) ∧ CV θ (bindC (envOfC qual scope L' f cdv).kindOf (names.zip cs) fun _ => none) (cellsFrom (L' + 1) scope.names []) cas)
    (h : ∀ g L' θ, X.θ₀ <+: θ → Fram (X.in (envOfC qual scope L' f cdv) g L' θ) (envOfC qual scope L' f cdv) r → (∀ i n c, (cellsFrom (L' + 1) scope.names [])[i]? = some (n, c) → θ[S.hp.length + i]? = some c) → θ.length = S.hp.length + cas.length →
      TrK (X.in (envOfC qual scope L' f cdv) g L' θ) FR (execs body (envOfC qual scope L' f cdv)) ⟨loc, S.hp ++ cas⟩ fun fl S' => K (match fl with | .ret v => v | _ => .nil) ⟨S.loc, S'.hp⟩)
    (h1 : scope.isCoroutine = false := by rfl) (h2 : scope.isGenerator = false := by rfl) (h3 : scope.kind = .function := by rfl) : TrLs X VR (callF (.ref f)) vs S K := fun θ s E Q cs Rl p vc kk => by
  obtain ⟨os, m, F, N, D, l, O, V⟩ := Rl.is
  obtain ⟨loose, mean, mg, mb, Tp⟩ := Fm.t
  obtain ⟨A₀, base, outer, Bl, hfr⟩ := Fm.b
  have hbb := hb s cs vc.len.symm
  refine wpAny_call (code_defC Bl F Fm.k N Tp hfr Fm.f Fm.s hlook hcode (by have := Fm.d; omega) hbb.1 hbb.2 hnd (fun g L' h₁ tk cells Fg F1 N1 Y B1 K1 T1 lt => ?_) h1 h2 h3)
  have hlv := hl θ cs L' vc
  have ec : cells.map (·.1) = (cellsFrom (L' + 1) scope.names []).map (·.2) := cells_adr Y
  have p1 : θ <+: θ ++ cells.map (·.1) := ⟨_, rfl⟩
  have hl' : (θ ++ cells.map (·.1)).length = (os ++ cells.map fun p => some p.2).length := by simp [l]
  have D1 := Dist.cells Y D lt
  have el : led (θ ++ cells.map (·.1)) (os ++ cells.map fun p => some p.2) = led θ os ++ cells := by rw [led_append l, led_cells]
  have R1 : Rel g L' X.rest ⟨loc, S.hp ++ cas⟩ (θ ++ cells.map (·.1)) h₁ := by
    refine ⟨os ++ cells.map fun p => some p.2, _, F1, ?_, ?_, hl', ?_, hlv.1.mono p1⟩
    · rw [el]
      intro q hq
      refine N1 q ?_
      simp only [List.mem_append] at hq ⊢
      rcases hq with (h | h) | h
      · exact .inr (.inl h)
      · exact .inl h
      · exact .inr (.inr h)
    · rw [el]
      refine ⟨?_⟩
      have e : ((led θ os ++ cells ++ X.rest).map (·.1)).Perm ((cells ++ (led θ os ++ X.rest)).map (·.1)) := by
        simp only [List.map_append, List.append_assoc]
        exact List.perm_append_comm_assoc ..
      exact e.nodup_iff.mpr D1.nd
    · have O1 : A2 (OR (θ ++ cells.map (·.1))) S.hp os := O.mono fun _ _ q => q.mono p1
      have O2 : A2 (OR (θ ++ cells.map (·.1))) cas (cells.map fun p => some p.2) := (hlv.2.or Y).mono fun _ _ q => q.mono p1
      clear kk el
      revert O1 O2
      generalize θ ++ cells.map (·.1) = θ'
      generalize cells.map (fun p => some p.2) = os2
      intro O1 O2
      clear O l Rl N D F hlv N1 D1 hl' lt
      generalize S.hp = hp at O1
      induction O1 with
      | nil => exact O2
      | cons h _ ih => exact .cons h ih
  refine h g L' (θ ++ cells.map (·.1)) (p.trans p1) ⟨Fm.pr, K1, ⟨loose, mean, mg, mb, T1⟩, ⟨X.A, base, env :: outer, B1, ?_⟩, rfl, h3, ?_, ?_⟩ (fun i n c e => ?_) (by rw [hl', List.length_append, O.len, (hlv.2.or Y).len]) (θ ++ cells.map (·.1)) _ _ _ R1 (List.prefix_refl _) fun fl S' θ' h' tk' cf kS R' p' v' => ?_
  · show Option.map _ X.A.frames = _; rw [hfr]; rfl
  · have := Fm.d; show X.A.depth + 1 + r < _; omega
  · have := Fm.u; show X.A.units + 3 + 200 * r < _; omega
  · have e0 : S.hp.length = θ.length := by rw [O.len, l]
    rw [e0, List.getElem?_append_right (by omega), ec, Nat.add_sub_cancel_left, List.getElem?_map, e]; rfl
  · obtain ⟨os', m', F', N', D', l', O', V'⟩ := R'.is
    refine leaveK_ F' N' fun Fr' N'' => ?_
    have R2 : Rel X.h₀ X.L X.rest ⟨S.loc, S'.hp⟩ θ' h' := ⟨os', m, Fr', N'', D', l', O', V.mono (p1.trans p')⟩
    cases v' with
    | ret hv => exact kk _ _ θ' h' tk' _ kS R2 (p1.trans p') hv
    | next => exact kk _ _ θ' h' tk' _ kS R2 (p1.trans p') .nil
    | brk => exact kk _ _ θ' h' tk' _ kS R2 (p1.trans p') .nil
    | cont => exact kk _ _ θ' h' tk' _ kS R2 (p1.trans p') .nil
end
noncomputable def updl {α : Type} : List α → List Nat → List α → List α
  | l, k :: ρ, a :: as => updl (l.set k a) ρ as
  | l, _, _ => l
theorem updl_len {α : Type} : ∀ (ρ : List Nat) (l as : List α), (updl l ρ as).length = l.length
  | [], l, as => by cases as <;> rfl
  | k :: ρ, l, [] => rfl
  | k :: ρ, l, a :: as => by rw [updl, updl_len]; simp
theorem updl_get {α : Type} : ∀ (ρ : List Nat) (l as : List α) (j : Nat), j ∉ ρ → (updl l ρ as)[j]? = l[j]?
  | [], l, as, j, _ => by cases as <;> rfl
  | k :: ρ, l, [], j, _ => rfl
  | k :: ρ, l, a :: as, j, h => by
    simp only [List.mem_cons, not_or] at h
    rw [updl, updl_get ρ _ _ j h.2, List.getElem?_set_ne (Ne.symm h.1)]
theorem updl_at {α : Type} : ∀ (ρ : List Nat) (l as : List α) (i k : Nat), ρ.Nodup → ρ.length = as.length → ρ[i]? = some k → k < l.length → (updl l ρ as)[k]? = as[i]?
  | [], _, _, i, k, _, _, h, _ => by simp at h
  | k₀ :: ρ, l, [], i, k, _, hl, _, _ => by simp at hl
  | k₀ :: ρ, l, a :: as, 0, k, nd, hl, h, hk => by
    simp at h; subst h
    rw [updl, updl_get ρ _ _ _ (List.nodup_cons.mp nd).1, List.getElem?_set_self hk]; rfl
  | k₀ :: ρ, l, a :: as, i + 1, k, nd, hl, h, hk => by
    rw [updl, updl_at ρ _ as i k (List.nodup_cons.mp nd).2 (by simpa using hl) (by simpa using h) (by simpa using hk)]; rfl
theorem A2.updl {α β : Type} {R : α → β → Prop} : ∀ {ρ : List Nat} {l as : List α} {l' bs : List β}, A2 R l l' → A2 R as bs → A2 R (updl l ρ as) (updl l' ρ bs)
  | [], _, _, _, _, h, h' => by cases h' <;> exact h
  | k :: ρ, _, _, _, _, h, h' => by
    cases h' with
    | nil => exact h
    | cons r t => have z := A2.updl (ρ := ρ) (h.set k r) t; exact z
theorem A2.app {α β : Type} {R : α → β → Prop} {as as2 : List α} {bs bs2 : List β} (h : A2 R as bs) (h2 : A2 R as2 bs2) : A2 R (as ++ as2) (bs ++ bs2) := by
  induction h with
  | nil => exact h2
  | cons r _ ih => exact .cons r ih
theorem A2.drop {α β : Type} {R : α → β → Prop} : ∀ {n : Nat} {as : List α} {bs : List β}, A2 R as bs → A2 R (as.drop n) (bs.drop n)
  | 0, _, _, h => h
  | n + 1, _, _, h => by
    cases h with
    | nil => exact .nil
    | cons _ t => have z := A2.drop (n := n) t; exact z
theorem A2.take {α β : Type} {R : α → β → Prop} : ∀ {n : Nat} {as : List α} {bs : List β}, A2 R as bs → A2 R (as.take n) (bs.take n)
  | 0, _, _, h => by simp; exact .nil
  | n + 1, _, _, h => by
    cases h with
    | nil => exact .nil
    | cons r t => have z := A2.take (n := n) t; exact .cons r z
/-- from the chosen part to the whole -/
noncomputable def Up (ρ : List Nat) (θ₀ θ : List Addr) : Prop := ∀ (k : Nat) (a : Addr), θ₀[k]? = some a → θ[(ρ[k]?).getD 0]? = some a
theorem VR.up {ρ : List Nat} {θ₀ θ : List Addr} (u : Up ρ θ₀ θ) {v : AV} {c : Value} (h : VR θ₀ v c) : VR θ (rnV ρ v) c := by
  cases h with
  | ref h => exact .ref (u _ _ h)
  | int => exact .int
  | bool => exact .bool
  | nil => exact .nil
  | fn => exact .fn
theorem A2.up {ρ : List Nat} {θ₀ θ : List Addr} (u : Up ρ θ₀ θ) : ∀ {vs : List AV} {cs : List Value}, A2 (VR θ₀) vs cs → A2 (VR θ) (vs.map (rnV ρ)) cs
  | [], _, h => by cases h; exact .nil
  | v :: vs, _, h => by cases h with | cons r t => exact .cons (r.up u) (A2.up u t)
theorem OR.up {ρ : List Nat} {θ₀ θ : List Addr} (u : Up ρ θ₀ θ) {n : Nat} {o : AO} {c : Option Obj} (h : OR θ₀ o c) (ok : okO n o = true) : OR θ (rnO ρ o) c := by
  cases h with
  | lst h => exact .lst (A2.up u h)
  | tup h => exact .tup (A2.up u h)
  | cell0 h => exact .cell0 h
  | cell1 h h' => exact .cell1 h (h'.up u)
  | gone => exact .gone
  | acell h => exact .acell h
  | li _ _ => cases ok
  | ti _ _ => cases ok
  | ri => exact .ri
  | il h => exact .il h
  | en _ => cases ok
  | ns _ _ => cases ok
theorem A2.upO {ρ : List Nat} {θ₀ θ : List Addr} (u : Up ρ θ₀ θ) {n : Nat} : ∀ {vs : List AO} {cs : List (Option Obj)}, A2 (OR θ₀) vs cs → vs.all (okO n) = true → A2 (OR θ) (vs.map (rnO ρ)) cs
  | [], _, h, _ => by cases h; exact .nil
  | v :: vs, _, h, ok => by
    simp only [List.all_cons, Bool.and_eq_true] at ok
    cases h with | cons r t => exact .cons (r.up u ok.1) (A2.upO u t ok.2)
theorem kill_app : ∀ (ρ : List Nat) (os o2 : List (Option Obj)), (∀ k ∈ ρ, k < os.length) → kill ρ (os ++ o2) = kill ρ os ++ o2
  | [], _, _, _ => rfl
  | k :: ρ, os, o2, h => by
    rw [kill, kill, List.set_append_left _ _ (h k (.head _)), kill_app ρ _ _ (fun j hj => by simpa using h j (.tail _ hj))]
theorem kill_updl (ρ : List Nat) (os as : List (Option Obj)) (h : ∀ k ∈ ρ, k < os.length) : kill ρ (updl os ρ as) = kill ρ os := by
  refine List.ext_getElem? fun j => ?_
  by_cases hj : j ∈ ρ
  · rw [kill_none ρ _ j hj (by rw [updl_len]; exact h j hj), kill_none ρ _ j hj (h j hj)]
  · rw [kill_get ρ _ j hj, kill_get ρ _ j hj, updl_get ρ _ _ j hj]
theorem pick_pre {ρ : List Nat} {θ θ' : List Addr} (p : θ <+: θ') (h : ∀ k ∈ ρ, k < θ.length) : pick ρ θ' 0 = pick ρ θ 0 := by
  unfold pick
  refine List.map_congr_left fun k hk => ?_
  have e : θ[k]? = some (θ[k]'(h k hk)) := List.getElem?_eq_some_iff.mpr ⟨h k hk, rfl⟩
  rw [pre_get p e, e]
/-- the heap after a call that saw the chosen part alone -/
noncomputable def nw (N n : Nat) (ρ : List Nat) (hp : List AO) : List Nat := ρ ++ List.range' N (hp.length - n)
noncomputable def mrg (S : AS) (ρ : List Nat) (hp : List AO) : AS := ⟨S.loc, updl S.hp ρ ((hp.take ρ.length).map (rnO (nw S.hp.length ρ.length ρ hp))) ++ (hp.drop ρ.length).map (rnO (nw S.hp.length ρ.length ρ hp))⟩
noncomputable def Cx.part (X : Cx) (rest : List (Addr × Obj)) (θ : List Addr) : Cx := { X with rest := rest, θ₀ := θ }
theorem T_sel {X : Cx} {S : AS} {f : List Value → Sem Value} {vs₀ : List AV} {ρ : List Nat} {hp₀ : List AO} {K : AV → AS → Prop} {K' : AV → List AO → Prop} (nd : ρ.Nodup) (hlen : ρ.length = hp₀.length)
    (hS : ∀ (i k : Nat) (ao : AO), ρ[i]? = some k → hp₀[i]? = some ao → S.hp[k]? = some (rnO ρ ao) ∧ okO ρ.length ao = true) (hv : vs₀.all (okV ρ.length) = true)
    (h : ∀ rest' θ₁ l, TrLs (X.part rest' θ₁) VR f vs₀ ⟨l, hp₀⟩ fun v S' => S'.loc = l ∧ S'.hp.all (okO S'.hp.length) = true ∧ K' v S'.hp)
    (hk : ∀ v hp', K' v hp' → K (rnV (nw S.hp.length ρ.length ρ hp') v) (mrg S ρ hp')) : TrLs X VR f (vs₀.map (rnV ρ)) S K := fun θ s E Q cs R p vc kk => by
  obtain ⟨os, m, F, N, D, l, O, V⟩ := R.is
  have hkρ : ∀ k ∈ ρ, k < θ.length := fun k hk => by
    obtain ⟨i, hi⟩ := List.mem_iff_getElem?.mp hk
    have hi' : i < hp₀.length := hlen ▸ (List.getElem?_eq_some_iff.mp hi).1
    have := (hS i k _ hi (List.getElem?_eq_some_iff.mpr ⟨hi', rfl⟩)).1
    have := (List.getElem?_eq_some_iff.mp this).1
    rw [l, ← O.len]; exact this
  have P := sel_perm (R := X.rest) nd l hkρ
  have hl₀ : LocR (pick ρ θ 0) (S.loc.map fun q => (q.1, AV.fn ((m q.1).getD .none))) m := by
    intro x w e
    have : ∀ (L : List (Str × AV)), (L.map fun q => (q.1, AV.fn ((m q.1).getD .none))).lookup x = some w → (∃ v, L.lookup x = some v) ∧ w = AV.fn ((m x).getD .none) := by
      intro L
      induction L with
      | nil => intro h; cases h
      | cons q r ih =>
        obtain ⟨a, b⟩ := q
        intro h
        simp only [List.map_cons, List.lookup_cons] at h
        by_cases hx : x = a
        · subst hx; rw [beq_self_eq_true] at h; cases h; exact ⟨⟨b, by simp [List.lookup_cons]⟩, rfl⟩
        · rw [beq_false_of_ne hx] at h
          obtain ⟨⟨v, h1⟩, h2⟩ := ih h
          exact ⟨⟨v, by simp [List.lookup_cons, beq_false_of_ne hx, h1]⟩, h2⟩
    obtain ⟨⟨v, e1⟩, rfl⟩ := this _ e
    obtain ⟨c, h1, h2⟩ := V x v e1
    exact ⟨c, h1, by rw [h1]; exact .fn⟩
  have R₀ : Rel X.h₀ X.L (led θ (kill ρ os) ++ X.rest) ⟨S.loc.map fun q => (q.1, AV.fn ((m q.1).getD .none)), hp₀⟩ (pick ρ θ 0) s.heap := by
    refine ⟨pick ρ os none, m, F, fun q hq => N q (P.mem_iff.mpr hq), ⟨(P.map (·.1)).nodup_iff.mp D.nd⟩, by simp [pick], A2.of_get (by simp [pick, hlen]) fun i ao oo e1 e2 => ?_, hl₀⟩
    have hi : i < ρ.length := hlen ▸ (List.getElem?_eq_some_iff.mp e1).1
    have e3 : ρ[i]? = some (ρ[i]'hi) := List.getElem?_eq_some_iff.mpr ⟨hi, rfl⟩
    obtain ⟨h1, h2⟩ := hS i _ ao e3 e1
    obtain ⟨o', h3, h4⟩ := O.get h1
    have := pick_get (d := none) e3 h3
    rw [this] at e2; cases e2
    exact h4.down h2
  refine h (led θ (kill ρ os) ++ X.rest) (pick ρ θ 0) _ (pick ρ θ 0) s E Q cs R₀ (List.prefix_refl _) (A2.down vc hv) fun v S₁ θ₁ h' tk' a hK R₁ p₁ v₁ => ?_
  obtain ⟨hloc, hok, hK⟩ := hK
  obtain ⟨τ, rfl⟩ := p₁
  obtain ⟨os₁, m₁, F₁, N₁, D₁, l₁, O₁, V₁⟩ := R₁.is
  have hn : (pick ρ θ 0).length = ρ.length := by simp [pick]
  have hτ : os₁.length = ρ.length + τ.length := by rw [← l₁, List.length_append, hn]
  have eos : os₁ = os₁.take ρ.length ++ os₁.drop ρ.length := (List.take_append_drop ..).symm
  have lA : (os₁.take ρ.length).length = ρ.length := by rw [List.length_take]; omega
  have p' : θ <+: θ ++ τ := ⟨τ, rfl⟩
  have eN : S.hp.length = θ.length := by rw [O.len, l]
  have hkos : ∀ k ∈ ρ, k < os.length := fun k hk => l ▸ hkρ k hk
  have l' : (θ ++ τ).length = (updl os ρ (os₁.take ρ.length) ++ os₁.drop ρ.length).length := by simp [updl_len, l]; omega
  have P' := sel_perm (R := X.rest) (θ := θ ++ τ) (os := updl os ρ (os₁.take ρ.length) ++ os₁.drop ρ.length) nd l' (fun k hk => by have := hkρ k hk; simp; omega)
  have e1 : pick ρ (updl os ρ (os₁.take ρ.length) ++ os₁.drop ρ.length) none = os₁.take ρ.length := by
    refine List.ext_getElem? fun i => ?_
    by_cases hi : i < ρ.length
    · have e3 : ρ[i]? = some (ρ[i]'hi) := List.getElem?_eq_some_iff.mpr ⟨hi, rfl⟩
      have hk : ρ[i]'hi < os.length := hkos _ (List.getElem_mem hi)
      have e4 : (os₁.take ρ.length)[i]? = some ((os₁.take ρ.length)[i]'(by rw [lA]; exact hi)) := List.getElem?_eq_some_iff.mpr ⟨by rw [lA]; exact hi, rfl⟩
      rw [e4]
      refine pick_get e3 ?_
      rw [List.getElem?_append_left (by rw [updl_len]; exact hk), updl_at ρ os _ i _ nd lA.symm e3 hk, e4]
    · rw [List.getElem?_eq_none_iff.mpr (by simp [pick]; omega), List.getElem?_eq_none_iff.mpr (by rw [lA]; omega)]
  have e2 : kill ρ (updl os ρ (os₁.take ρ.length) ++ os₁.drop ρ.length) = kill ρ os ++ os₁.drop ρ.length := by
    rw [kill_app _ _ _ (by rw [updl_len]; exact hkos), kill_updl _ _ _ hkos]
  have e4 : led (θ ++ τ) (kill ρ os ++ os₁.drop ρ.length) = led θ (kill ρ os) ++ led τ (os₁.drop ρ.length) := led_append (by rw [kill_len, l])
  rw [e1, e2, pick_pre p' hkρ, e4] at P'
  have e3 : led (pick ρ θ 0 ++ τ) os₁ = led (pick ρ θ 0) (os₁.take ρ.length) ++ led τ (os₁.drop ρ.length) := by
    conv => lhs; rw [eos]
    exact led_append (by rw [hn, lA])
  have PP : (led (θ ++ τ) (updl os ρ (os₁.take ρ.length) ++ os₁.drop ρ.length) ++ X.rest).Perm (led (pick ρ θ 0 ++ τ) os₁ ++ (led θ (kill ρ os) ++ X.rest)) := by
    refine P'.trans ?_
    rw [e3, List.append_assoc, List.append_assoc]
    exact (List.Perm.append_left _ (List.perm_append_comm_assoc ..))
  have hn1 : S₁.hp.length = ρ.length + τ.length := by rw [O₁.len, hτ]
  have u : Up (nw S.hp.length ρ.length ρ S₁.hp) (pick ρ θ 0 ++ τ) (θ ++ τ) := by
    intro k b hb
    by_cases hk : k < ρ.length
    · have e5 : ρ[k]? = some (ρ[k]'hk) := List.getElem?_eq_some_iff.mpr ⟨hk, rfl⟩
      rw [nw, List.getElem?_append_left hk, e5, Option.getD_some]
      have hkk := hkρ _ (List.getElem_mem hk)
      have e6 : θ[ρ[k]'hk]? = some (θ[ρ[k]'hk]'hkk) := List.getElem?_eq_some_iff.mpr ⟨hkk, rfl⟩
      rw [List.getElem?_append_left (by rw [hn]; exact hk), pick_get e5 e6] at hb
      cases hb
      exact pre_get p' e6
    · have hk2 : k - ρ.length < τ.length := by
        have := (List.getElem?_eq_some_iff.mp hb).1
        rw [List.length_append, hn] at this; omega
      have e8 : (nw S.hp.length ρ.length ρ S₁.hp)[k]? = some (θ.length + (k - ρ.length)) := by
        have hk3 : ρ.length ≤ k := Nat.le_of_not_lt hk
        rw [nw, List.getElem?_append_right hk3, List.getElem?_range' (by omega), eN, Nat.one_mul]
      rw [e8, Option.getD_some]
      rw [List.getElem?_append_right (by rw [hn]; omega), hn] at hb
      rw [List.getElem?_append_right (by omega), Nat.add_sub_cancel_left]
      exact hb
  refine kk _ _ (θ ++ τ) h' tk' a (hk v S₁.hp hK) ⟨updl os ρ (os₁.take ρ.length) ++ os₁.drop ρ.length, m₁, F₁, fun q hq => N₁ q (PP.mem_iff.mp hq), ⟨(PP.map (·.1)).nodup_iff.mpr D₁.nd⟩, l', ?_, ?_⟩ p' (v₁.up u)
  · have okA : (S₁.hp.take ρ.length).all (okO S₁.hp.length) = true := List.all_eq_true.mpr fun x hx => List.all_eq_true.mp hok x (List.mem_of_mem_take hx)
    have okB : (S₁.hp.drop ρ.length).all (okO S₁.hp.length) = true := List.all_eq_true.mpr fun x hx => List.all_eq_true.mp hok x (List.mem_of_mem_drop hx)
    exact (A2.updl (O.mono fun _ _ q => q.mono p') (A2.upO u O₁.take okA)).app (A2.upO u O₁.drop okB)
  · intro x v e
    obtain ⟨c, h1, h2⟩ := V x v e
    have e7 : S₁.loc.lookup x = some (AV.fn c) := by
      rw [hloc]
      have : ∀ (L : List (Str × AV)), L.lookup x = some v → (L.map fun q => (q.1, AV.fn ((m q.1).getD .none))).lookup x = some (AV.fn c) := by
        intro L
        induction L with
        | nil => intro h; cases h
        | cons q r ih =>
          obtain ⟨a, b⟩ := q
          intro h
          simp only [List.lookup_cons] at h
          simp only [List.map_cons, List.lookup_cons]
          by_cases hx : x = a
          · subst hx; simp [h1]
          · rw [beq_false_of_ne hx] at h ⊢; exact ih h
      exact this _ e
    obtain ⟨c', h3, h4⟩ := V₁ x _ e7
    cases h4
    exact ⟨c, h3, h2.mono p'⟩
section
variable {X : Cx} {S : AS} {env : Env} {K : AV → AS → Prop}
theorem T_bool {b : Bool} {j : Nat} {pos : Pos} (h : K (.bool b) S) : Tr X (eval (.Constant (.bool b) j pos) env) S K :=
  fun θ s E Q R p k => wpAny_Constant_bool (k _ _ θ s.heap s.toks _ h R (List.prefix_refl _) .bool)
theorem T_and {e1 e2 : Expr} {pos : Pos} (h : Tr X (eval e1 env) S fun v S1 => Tr1 X (fun _ b a => a = b) truthy v S1 fun c S2 => (c = true → Tr X (eval e2 env) S2 K) ∧ (c = false → K v S2)) : Tr X (eval (.BoolOp .And [e1, e2] pos) env) S K :=
  fun θ s E Q R p k => BoolOp_and (h θ s E _ R p fun v S1 θ1 h1 tk1 cv k1 R1 p1 v1 => k1 θ1 _ E _ cv R1 (p.trans p1) v1 fun c S2 θ2 h2 tk2 a2 k2 R2 p2 e2 => by
    subst e2
    cases a2 with
    | true => rw [if_pos rfl]; exact BoolOp_one (k2.1 rfl θ2 _ E Q R2 ((p.trans p1).trans p2) fun f2 S3 θ3 h3 tk3 c3 k3 R3 p3 v3 => k f2 S3 θ3 h3 tk3 c3 k3 R3 ((p1.trans p2).trans p3) v3)
    | false => rw [if_neg (by decide)]; exact k _ S2 θ2 h2 tk2 _ (k2.2 rfl) R2 (p1.trans p2) (v1.mono p2))
noncomputable def ints? : List AV → Option (List Int)
  | [] => some []
  | .int x :: r => (ints? r).map (x :: ·)
  | _ => none
theorem ints_are {θ : List Addr} : ∀ {vs : List AV} {ns : List Int} {cs : List Value}, ints? vs = some ns → A2 (VR θ) vs cs → IntsAre cs ns
  | [], _, _, h, a => by cases h; cases a; exact .nil
  | .int x :: r, ns, _, h, a => by
    cases a with
    | cons v t =>
      cases v
      simp only [ints?, Option.map_eq_some_iff] at h
      obtain ⟨ms, h1, rfl⟩ := h
      exact .cons _ _ (ints_are h1 t)
theorem T_eqList {k j : Nat} {vs us : List AV} {ns ms : List Int} (e1 : S.hp[k]? = some (.lst vs)) (e2 : S.hp[j]? = some (.lst us)) (h1 : ints? vs = some ns) (h2 : ints? us = some ms) (hu : X.A.units + 64 < cLine) (h : K (.bool (decide (ns = ms))) S) : Tr2 X VR (compareOp .Eq) (.ref k) (.ref j) S K := fun θ s E Q c d R p v1 v2 kk => by
  obtain ⟨os, m, oo, F, N, D, l, O, V, e3, o1, _⟩ := R.get e1
  obtain ⟨oo2, e4, o2⟩ := O.get e2
  cases v1 with
  | ref hA => cases v2 with
    | ref hB => cases o1 with
      | lst a1 => cases o2 with
        | lst a2 => exact eq_intsK ⟨_, (N _ (List.mem_append_left _ (led_mem hA e3))).1, rfl, _, rfl⟩ (ints_are h1 a1) ⟨_, (N _ (List.mem_append_left _ (led_mem hB e4))).1, rfl, _, rfl⟩ (ints_are h2 a2) hu (kk _ _ θ s.heap s.toks _ h R (List.prefix_refl _) .bool)
theorem T_neList {k j : Nat} {vs us : List AV} {ns ms : List Int} (e1 : S.hp[k]? = some (.lst vs)) (e2 : S.hp[j]? = some (.lst us)) (h1 : ints? vs = some ns) (h2 : ints? us = some ms) (hu : X.A.units + 64 < cLine) (h : K (.bool (!decide (ns = ms))) S) : Tr2 X VR (compareOp .NotEq) (.ref k) (.ref j) S K := fun θ s E Q c d R p v1 v2 kk => by
  obtain ⟨os, m, oo, F, N, D, l, O, V, e3, o1, _⟩ := R.get e1
  obtain ⟨oo2, e4, o2⟩ := O.get e2
  cases v1 with
  | ref hA => cases v2 with
    | ref hB => cases o1 with
      | lst a1 => cases o2 with
        | lst a2 => exact ne_intsK ⟨_, (N _ (List.mem_append_left _ (led_mem hA e3))).1, rfl, _, rfl⟩ (ints_are h1 a1) ⟨_, (N _ (List.mem_append_left _ (led_mem hB e4))).1, rfl, _, rfl⟩ (ints_are h2 a2) hu (kk _ _ θ s.heap s.toks _ h R (List.prefix_refl _) .bool)
theorem Fram.hu {r : Nat} (F : Fram X env (r + 1)) : X.A.units + 64 < cLine := by have := F.u; omega
end
/-- the interpreter's own names that the executor knows -/
inductive GB where
  | len | abs | min | max | list | range | enum | sum | int
noncomputable def GB.val : GB → Value
  | .len => .builtin "len" | .sum => .builtin "sum" | .int => .type "int" | .abs => .builtin "abs" | .min => .builtin "min" | .max => .builtin "max" | .list => .type "list" | .range => .type "range" | .enum => .type "enumerate"
/-- what the executor knows of an environment -/
structure EC where
  kinds : List (Str × NameKind)
  cells : List (Str × Nat)
  ns : Option Nat
  glb : List (Str × GB)
noncomputable def EC.look (C : EC) (x : Str) (S : AS) : Option AV :=
  if (x == ("__debug__" : Str) || x == ("__classdict__" : Str)) = true then none else
  match C.kinds.lookup x with
  | some .local => match C.ns with
    | none => S.loc.lookup x
    | some k => match S.hp[k]? with
      | some (.ns l) => l.lookup x
      | _ => none
  | some .cell | some .free => match C.cells.lookup x with
    | some j => match S.hp[j]? with
      | some (.cell (some v)) => some v
      | _ => none
    | none => none
  | _ => none
structure EOk (X : Cx) (C : EC) (env : Env) : Prop where
  name : ∀ {S : AS} {K : AV → AS → Prop} {x : Str} {v : AV} {pos : Pos}, C.look x S = some v → K v S → Tr X (eval (.Name x pos) env) S K
  glb : ∀ {x : Str} {g : GB}, C.glb.lookup x = some g → Glb X env x g.val
noncomputable def plainE : Expr → Bool
  | .Name .. => true | .Constant .. => true | .BinOp .. => true | .Subscript .. => true | .UnaryOp .. => true | .Call .. => true | .List .. => true | .Tuple .. => true | _ => false
noncomputable def cmpI (a b : AV) (f : Int → Int → Bool) : Option AV := match a with
  | .int x => match b with
    | .int y => some (.bool (f x y))
    | _ => none
  | _ => none
theorem cmpI_ok {a b v : AV} {f : Int → Int → Bool} (h : cmpI a b f = some v) : ∃ x y, a = .int x ∧ b = .int y ∧ v = .bool (f x y) := by
  cases a with
  | int x =>
    cases b with
    | int y => exact ⟨x, y, rfl, rfl, (Option.some.inj h).symm⟩
    | _ => first | exact ff_tt h | exact nn_ss h | cases h
  | _ => first | exact ff_tt h | exact nn_ss h | cases h
noncomputable def cNil (a b : AV) : Option Bool := match b with
  | .nil => match a with
    | .nil => some true
    | .ref _ => some false
    | _ => none
  | _ => none
noncomputable def cNot (a b : AV) : Option Bool := match b with
  | .nil => match a with
    | .nil => some false
    | .int _ => some true
    | _ => none
  | _ => none
noncomputable def exCmp (op : CmpOp) (a b : AV) : Option AV := match op with
  | .Eq => cmpI a b fun x y => x == y
  | .NotEq => cmpI a b fun x y => x != y
  | .Lt => cmpI a b fun x y => decide (x < y)
  | .Gt => cmpI a b fun x y => decide (y < x)
  | .GtE => cmpI a b fun x y => decide (y ≤ x)
  | .Is => (cNil a b).map AV.bool
  | .IsNot => (cNot a b).map AV.bool
  | _ => none
section
variable {X : Cx} {S : AS} {env : Env} {K : AV → AS → Prop}
theorem exCmp_ok {op : CmpOp} {a b v : AV} (h : exCmp op a b = some v) (hK : K v S) : Tr2 X VR (compareOp op) a b S K := by
  cases op with
  | Eq => obtain ⟨x, y, rfl, rfl, rfl⟩ := cmpI_ok h; exact T_eq hK
  | NotEq => obtain ⟨x, y, rfl, rfl, rfl⟩ := cmpI_ok h; exact T_ne hK
  | Lt => obtain ⟨x, y, rfl, rfl, rfl⟩ := cmpI_ok h; exact T_lt hK
  | Gt => obtain ⟨x, y, rfl, rfl, rfl⟩ := cmpI_ok h; exact T_gt hK
  | GtE => obtain ⟨x, y, rfl, rfl, rfl⟩ := cmpI_ok h; exact T_ge hK
  | Is =>
    cases b with
    | nil => cases a with
      | nil => cases h; exact T_isNone hK
      | ref k => cases h; exact T_isRef hK
      | _ => first | exact ff_tt h | exact nn_ss h | cases h
    | _ => first | exact ff_tt h | exact nn_ss h | cases h
  | IsNot =>
    cases b with
    | nil => cases a with
      | nil => cases h; exact T_isntNone hK
      | int k => cases h; exact T_isntInt hK
      | _ => first | exact ff_tt h | exact nn_ss h | cases h
    | _ => first | exact ff_tt h | exact nn_ss h | cases h
  | _ => first | exact ff_tt h | exact nn_ss h | cases h
theorem plain_sub {i : Expr} (h : plainE i = true) {x : Int} (l : Addr) (t : Tok) : subscripted i false (.ref l) (.int x t) = operate [.ref l, .int x t] (getItem (.ref l) (.int x t)) := by
  cases i <;> first | rfl | first | exact ff_tt h | exact nn_ss h | cases h
theorem plain_mark {op : CmpOp} {e : Expr} (h : plainE e = true) : behindInMarks op e = false := by
  cases e <;> first | rfl | first | exact ff_tt h | exact nn_ss h | cases h
end
/-- where the cells of an environment stand -/
noncomputable def COk (θ : List Addr) (cl : List (Str × Addr)) (cells : List (Str × Nat)) : Prop := ∀ x j, cells.lookup x = some j → ∃ c, cl.lookup x = some c ∧ θ[j]? = some c
noncomputable def GOk (X : Cx) (env : Env) (glb : List (Str × GB)) : Prop := ∀ x g, glb.lookup x = some g → Glb X env x g.val
theorem look_guard {C : EC} {x : Str} {S : AS} {v : AV} (h : C.look x S = some v) : (x == ("__debug__" : Str)) = false ∧ (x == ("__classdict__" : Str)) = false ∧ ((C.kinds.lookup x = some .local ∧ ((C.ns = none ∧ S.loc.lookup x = some v) ∨ ∃ k l, C.ns = some k ∧ S.hp[k]? = some (.ns l) ∧ l.lookup x = some v)) ∨ ((C.kinds.lookup x = some .cell ∨ C.kinds.lookup x = some .free) ∧ ∃ j, C.cells.lookup x = some j ∧ S.hp[j]? = some (.cell (some v)))) := by
  unfold EC.look at h
  split at h
  · cases h
  · rename_i hg
    simp only [Bool.or_eq_true, not_or, Bool.not_eq_true] at hg
    refine ⟨hg.1, hg.2, ?_⟩
    split at h
    · rename_i hk
      split at h
      · rename_i hn; exact .inl ⟨hk, .inl ⟨hn, h⟩⟩
      · rename_i k hn
        split at h
        · rename_i l hl; exact .inl ⟨hk, .inr ⟨k, l, hn, hl, h⟩⟩
        · cases h
    · rename_i hk
      split at h
      · rename_i j hj
        split at h
        · rename_i w hw; cases h; exact .inr ⟨.inl hk, j, hj, hw⟩
        · cases h
      · cases h
    · rename_i hk
      split at h
      · rename_i j hj
        split at h
        · rename_i w hw; cases h; exact .inr ⟨.inr hk, j, hj, hw⟩
        · cases h
      · cases h
    · cases h
theorem EOk.fn {X : Cx} {cn : Str} {cs : Scope} {a : Addr} {ccd : Value} {cl : List (Str × Addr)} {cells : List (Str × Nat)} {glb : List (Str × GB)} (hk : cs.kind = .function) (hf : (cs.names.all fun p => p.2 != .free) = true) (hc : COk X.θ₀ cl cells) (hg : GOk X (envX cn cs X.L a ccd cl) glb) :
    EOk X ⟨cs.names, cells, none, glb⟩ (envX cn cs X.L a ccd cl) where
  glb := fun h => hg _ _ h
  name := fun {S K x v pos} h hK => by
    obtain ⟨h1, h2, h3⟩ := look_guard h
    rcases h3 with ⟨e1, h3⟩ | ⟨e1, j, e2, e3⟩
    · rcases h3 with ⟨_, e2⟩ | ⟨k, l, e2, _⟩
      · exact T_name e2 hK hk e1 h1
      · cases e2
    · rcases e1 with e1 | e1
      · obtain ⟨c, e4, e5⟩ := hc x j e2
        exact T_nameC e4 e5 e3 hK hk e1 h1
      · exfalso
        have : ∀ (L : List (Str × NameKind)), (L.all fun p => p.2 != .free) = true → L.lookup x = some .free → False := by
          intro L
          induction L with
          | nil => intro _ h; cases h
          | cons p r ih =>
            obtain ⟨n, k⟩ := p
            intro ha hl
            simp only [List.all_cons, Bool.and_eq_true] at ha
            simp only [List.lookup_cons] at hl
            split at hl
            · cases hl; exact absurd ha.1 (by decide)
            · exact ih ha.2 hl
        exact this _ hf e1
theorem EOk.comp {X : Cx} {env : Env} {scope : Scope} {cl : List (Str × Addr)} {C : Addr} {kC : Nat} {cells : List (Str × Nat)} {glb : List (Str × GB)} (hk : scope.kind = .function) (hC : X.θ₀[kC]? = some C) (hc : COk X.θ₀ cl cells) (hg : GOk X (compEnvC scope cl C env) glb) :
    EOk X ⟨(relabel scope env).names, cells, some kC, glb⟩ (compEnvC scope cl C env) where
  glb := fun h => hg _ _ h
  name := fun {S K x v pos} h hK => by
    obtain ⟨h1, h2, h3⟩ := look_guard h
    rcases h3 with ⟨e1, h3⟩ | ⟨e1, j, e2, e3⟩
    · rcases h3 with ⟨e2, _⟩ | ⟨k, l, e2, e3, e4⟩
      · cases e2
      · cases e2; exact T_nameP hC e3 e4 hK hk e1 h1
    · obtain ⟨c, e4, e5⟩ := hc x j e2
      rcases e1 with e1 | e1
      · exact T_namePC e4 e5 e3 hK hk e1 h1
      · exact T_namePF e4 e5 e3 hK hk e1 h1 h2
theorem T_appendM {X : Cx} {S : AS} {env : Env} {K : AV → AS → Prop} {o e : Expr} {apos pos : Pos} {pl : Sem Bool} (h : Tr X (eval o env) S fun ov S1 => ∃ k ws0, ov = .ref k ∧ S1.hp[k]? = some (.lst ws0) ∧ Tr X (eval e env) S1 fun x S2 => ∃ ws, S2.hp[k]? = some (.lst ws) ∧ ws.length ≤ 1000 ∧ K .nil (S2.put k (.lst (ws ++ [x]))))
    (hm : eval (.Call (.Attribute o (Str.ofString "append") apos) [e] [] pos) env = (do let ov ← eval o env; standAt apos.atName; let (f, first) ← holding [ov] (getMethod ov (Str.ofString "append") pl); callWith pos f first (backTo pos (starEach [e] env)) []) := by rfl)
    (hs : starEach (e :: []) env = (false, eval e env) :: starEach [] env := by rfl) : Tr X (eval (.Call (.Attribute o (Str.ofString "append") apos) [e] [] pos) env) S K := fun θ s E Q R p kk => by
  refine MethodCall_ (h θ s _ _ R p fun ov S1 θ1 h1 tk1 c hk R1 p1 v1 => ?_) hm
  obtain ⟨k, ws0, rfl, e1, h2⟩ := hk
  obtain ⟨os, m, oo, F, N, D, l, O, V, e2, o1, _⟩ := R1.get e1
  cases VR.refI v1 with
  | mk hA =>
    cases OR.lstI o1 with
    | mk hvs =>
      refine listMethod_K N (List.mem_append_left _ (led_mem hA e2)) PySem.F.slot_list_append PySem.F.type_list_append (callWith_method1 (args_cons (h2 θ1 _ _ _ R1 (p.trans p1) fun x S2 θ2 h2' tk2 cx k2 R2 p2 vx => args_nil ?_) hs) hs)
      obtain ⟨ws, e3, hl, hK⟩ := k2
      exact T_append (X := X) e3 hl hK θ2 _ _ _ _ cx R2 ((p.trans p1).trans p2) (.ref (pre_get p2 hA)) vx fun b S' θ' h' tk' a kb R' p' v' => kk b S' θ' h' tk' a kb R' ((p1.trans p2).trans p') v'
theorem COk.push {θ : List Addr} {cl : List (Str × Addr)} {cells : List (Str × Nat)} {x : Str} {c : Addr} {j : Nat} (h : θ[j]? = some c) (t : COk θ cl cells) : COk θ ((x, c) :: cl) ((x, j) :: cells) := fun y i e => by
  simp only [List.lookup_cons] at e ⊢
  by_cases hy : y = x
  · subst hy; rw [beq_self_eq_true] at e ⊢; cases e; exact ⟨c, rfl, h⟩
  · rw [beq_false_of_ne hy] at e ⊢; exact t y i e
theorem T_sum {X : Cx} {S : AS} {K : AV → AS → Prop} {k : Nat} {vs : List AV} {ns : List Int} {z : Int} (e : S.hp[k]? = some (.lst vs)) (hi : ints? vs = some ns) (hz : ns.sum = z) (h : K (.int z) S) : TrLs X VR (callF (.builtin "sum")) [.ref k] S K := fun θ s E Q cs R p v kk => by
  obtain ⟨os, m, oo, F, N, D, l, O, V, e1, o1, _⟩ := R.get e
  cases v with
  | cons v1 v2 =>
    cases v2
    cases VR.refI v1 with
    | mk hA =>
      cases OR.lstI o1 with
      | mk hvs => exact LSm.sum_ints F N X.hh ⟨_, (N _ (List.mem_append_left _ (led_mem hA e1))).1, rfl, _, rfl⟩ (ints_are hi hvs) fun h' tk t' F' N' => by rw [hz]; exact kk _ _ θ h' tk _ h ⟨os, m, F', N', D, l, O, V⟩ (List.prefix_refl _) .int
theorem Gc.of {n : Nat} {ρ : List Nat} {S S₀ : AS} (nd : ρ.Nodup) (pre : ∀ i, i < n → ρ[i]? = some i) (e : (ρ.map fun k => S.hp[k]?) = S₀.hp.map fun ao => some (rnO ρ ao)) (ok : S₀.hp.all (okO ρ.length) = true) (hl : dnL ρ S.loc S₀.loc) : Gc n ρ S S₀ where
  nd := nd
  pre := pre
  len := by have := congrArg List.length e; simpa using this
  hl := hl
  hS := fun i k ao h1 h2 => by
    have h3 : (ρ.map fun k => S.hp[k]?)[i]? = (S₀.hp.map fun ao => some (rnO ρ ao))[i]? := by rw [e]
    rw [List.getElem?_map, List.getElem?_map, h1, h2] at h3
    simp only [Option.map_some, Option.some.injEq] at h3
    exact ⟨h3, List.all_eq_true.mp ok ao (List.mem_of_getElem? h2)⟩
theorem dnL.nil {ρ : List Nat} {l : List (Str × AV)} : dnL ρ l [] := fun _ _ h => by cases h
theorem dnL.cons {ρ : List Nat} {l r : List (Str × AV)} {n : Str} {v : AV} (h : l.lookup n = some (rnV ρ v)) (ok : okV ρ.length v = true) (t : dnL ρ l r) : dnL ρ l ((n, v) :: r) := fun x w e => by
  simp only [List.lookup_cons] at e
  by_cases hy : x = n
  · subst hy; rw [beq_self_eq_true] at e; cases e; exact ⟨h, ok⟩
  · rw [beq_false_of_ne hy] at e; exact t x w e
/-- a call's end, its garbage forgotten -/
noncomputable def Ends (n : Nat) (l : List (Str × AV)) (K : AV → AS → Prop) : AV → AS → Prop := fun v S' => ∃ ρ v₀ hp₀, Gc n ρ ⟨[], S'.hp⟩ ⟨[], hp₀⟩ ∧ v = rnV ρ v₀ ∧ okV ρ.length v₀ = true ∧ S'.loc = l ∧ K v₀ ⟨l, hp₀⟩
theorem Fram.part {X : Cx} {env : Env} {r : Nat} {rest : List (Addr × Obj)} {θ : List Addr} (F : Fram X env r) : Fram (X.part rest θ) env r := ⟨F.pr, F.k, F.t, F.b, F.f, F.s, F.d, F.u⟩
theorem Fram.at {X : Cx} {env : Env} {r : Nat} {θ : List Addr} (F : Fram X env r) : Fram (X.at θ) env r := ⟨F.pr, F.k, F.t, F.b, F.f, F.s, F.d, F.u⟩
theorem Fram.le {X : Cx} {env : Env} {r r' : Nat} (h : r' ≤ r) (F : Fram X env r) : Fram X env r' := ⟨F.pr, F.k, F.t, F.b, F.f, F.s, by have := F.d; omega, by have := F.u; omega⟩
theorem sel_of {ρ : List Nat} {S : AS} {hp₀ : List AO} (e : (ρ.map fun k => S.hp[k]?) = hp₀.map fun ao => some (rnO ρ ao)) (ok : hp₀.all (okO ρ.length) = true) :
    ρ.length = hp₀.length ∧ ∀ (i k : Nat) (ao : AO), ρ[i]? = some k → hp₀[i]? = some ao → S.hp[k]? = some (rnO ρ ao) ∧ okO ρ.length ao = true := by
  refine ⟨by have := congrArg List.length e; simpa using this, fun i k ao h1 h2 => ?_⟩
  have h3 : (ρ.map fun k => S.hp[k]?)[i]? = (hp₀.map fun ao => some (rnO ρ ao))[i]? := by rw [e]
  rw [List.getElem?_map, List.getElem?_map, h1, h2] at h3
  simp only [Option.map_some, Option.some.injEq] at h3
  exact ⟨h3, List.all_eq_true.mp ok ao (List.mem_of_getElem? h2)⟩
section
variable {X : Cx} {S : AS} {f : List Value → Sem Value} {vs vs₀ : List AV} {ρ : List Nat} {hp₀ hp' hp1 hp2 : List AO} {v' v1 v2 : AV} {c1 c2 : Prop} {K : AV → AS → Prop}
end
/-- of at most e bits -/
noncomputable def Bd (e : Nat) (x : Int) : Prop := x.natAbs < 2 ^ e
theorem Bd.mono {e e' : Nat} {x : Int} (h : Bd e x) (he : e ≤ e') : Bd e' x := Nat.lt_of_lt_of_le h (Nat.pow_le_pow_right (by decide) he)
theorem Bd.neg {e : Nat} {x : Int} (h : Bd e x) : Bd e (-x) := by unfold Bd at *; rw [Int.natAbs_neg]; exact h
theorem Bd.add {e : Nat} {x y : Int} (h : Bd e x) (h' : Bd e y) : Bd (e + 1) (x + y) := by
  unfold Bd at *
  have := Int.natAbs_add_le x y
  have e1 : 2 ^ (e + 1) = 2 * 2 ^ e := by rw [Nat.pow_succ, Nat.mul_comm]
  omega
theorem Bd.turn {e : Nat} {x y q : Int} (h : Bd e x) (h' : Bd e y) (hq : q.natAbs ≤ 2000) : Bd (e + 11) (x - q * y) := by
  unfold Bd at *
  have h1 : (x - q * y).natAbs ≤ x.natAbs + q.natAbs * y.natAbs := by
    have := Int.natAbs_add_le x (-(q * y))
    rw [Int.natAbs_neg, Int.natAbs_mul] at this
    rwa [Int.sub_eq_add_neg]
  have h2 : q.natAbs * y.natAbs ≤ 2000 * y.natAbs := Nat.mul_le_mul_right _ hq
  have e1 : 2 ^ (e + 11) = 2 ^ e * 2048 := by rw [Nat.pow_add]
  generalize 2 ^ e = t at *
  omega
theorem bits_of_Bd {e : Nat} {x : Int} (h : Bd e x) : Builtin.Int.intBits x ≤ e := by
  unfold Builtin.Int.intBits
  split
  · exact Nat.zero_le _
  · rename_i hx
    have hx' : x.natAbs ≠ 0 := by intro z; apply hx; have : x = 0 := by omega
                                  subst this; rfl
    exact (Nat.log2_lt hx').mpr h
theorem Sm_of {x : Int} (h : x.natAbs ≤ 10000) : Sm x := by
  refine Nat.le_trans (bits_of_Bd (e := 14) ?_) (by decide)
  unfold Bd
  have : (2 : Nat) ^ 14 = 16384 := by decide
  omega
theorem rem_lt {x y : Int} (h : y ≠ 0) : (x - x.fdiv y * y).natAbs < y.natAbs := by
  have e : x - x.fdiv y * y = x.fmod y := by rw [Int.fmod_def, Int.mul_comm]
  rw [e]
  rcases Int.lt_or_gt_of_ne h with h | h
  · have e1 : x.fmod y = -((-x).fmod (-y)) := by rw [Int.neg_fmod_neg]; omega
    have h1 : 0 < -y := by omega
    have := Int.fmod_lt_of_pos (-x) h1
    have := Int.fmod_nonneg_of_pos (-x) h1
    omega
  · have := Int.fmod_lt_of_pos x h
    have := Int.fmod_nonneg_of_pos x h
    omega
theorem rem_eq {x y : Int} : x - x.fdiv y * y = x.fmod y := by rw [Int.fmod_def, Int.mul_comm]
theorem quo_le {x y : Int} (h : y ≠ 0) (hx : x.natAbs ≤ 1024) (hy : y.natAbs ≤ 512) : (x.fdiv y).natAbs ≤ 2000 := Nat.le_trans (Int.natAbs_fdiv_le_natAbs x y) (Nat.le_trans hx (by decide))
/-- x = y a z, y and z of determinant 1 or -1 -/
structure Inv2 (a0 a1 a2 a3 x0 x1 x2 x3 y0 y1 y2 y3 z0 z1 z2 z3 : Int) : Prop where
  e0 : x0 = (y0 * a0 + y1 * a2) * z0 + (y0 * a1 + y1 * a3) * z2
  e1 : x1 = (y0 * a0 + y1 * a2) * z1 + (y0 * a1 + y1 * a3) * z3
  e2 : x2 = (y2 * a0 + y3 * a2) * z0 + (y2 * a1 + y3 * a3) * z2
  e3 : x3 = (y2 * a0 + y3 * a2) * z1 + (y2 * a1 + y3 * a3) * z3
  dy : y0 * y3 - y1 * y2 = 1 ∨ y0 * y3 - y1 * y2 = -1
  dz : z0 * z3 - z1 * z2 = 1 ∨ z0 * z3 - z1 * z2 = -1
section
variable {a0 a1 a2 a3 x0 x1 x2 x3 y0 y1 y2 y3 z0 z1 z2 z3 : Int} {e : Nat}
theorem Inv2.rows (I : Inv2 a0 a1 a2 a3 x0 x1 x2 x3 y0 y1 y2 y3 z0 z1 z2 z3) : Inv2 a0 a1 a2 a3 x2 x3 x0 x1 y2 y3 y0 y1 z0 z1 z2 z3 :=
  ⟨I.e2, I.e3, I.e0, I.e1, by have := I.dy; grind, I.dz⟩
theorem Inv2.cols (I : Inv2 a0 a1 a2 a3 x0 x1 x2 x3 y0 y1 y2 y3 z0 z1 z2 z3) : Inv2 a0 a1 a2 a3 x1 x0 x3 x2 y0 y1 y2 y3 z1 z0 z3 z2 :=
  ⟨I.e1, I.e0, I.e3, I.e2, I.dy, by have := I.dz; grind⟩
theorem Inv2.clear (I : Inv2 a0 a1 a2 a3 x0 x1 x2 x3 y0 y1 y2 y3 z0 z1 z2 z3) (p q : Int) :
    Inv2 a0 a1 a2 a3 x0 (x1 - p * x0) (x2 - q * x0) (x3 - q * x1 - p * (x2 - q * x0)) y0 y1 (y2 - q * y0) (y3 - q * y1) z0 (z1 - p * z0) z2 (z3 - p * z2) := by
  obtain ⟨e0, e1, e2, e3, dy, dz⟩ := I
  exact ⟨e0, by grind, by grind, by grind, by grind, by grind⟩
theorem Inv2.add (I : Inv2 a0 a1 a2 a3 x0 x1 x2 x3 y0 y1 y2 y3 z0 z1 z2 z3) :
    Inv2 a0 a1 a2 a3 (x0 + x2) (x1 + x3) x2 x3 (y0 + y2) (y1 + y3) y2 y3 z0 z1 z2 z3 := by
  obtain ⟨e0, e1, e2, e3, dy, dz⟩ := I
  exact ⟨by grind, by grind, e2, e3, by grind, dz⟩
theorem Inv2.neg0 (I : Inv2 a0 a1 a2 a3 x0 x1 x2 x3 y0 y1 y2 y3 z0 z1 z2 z3) :
    Inv2 a0 a1 a2 a3 (-x0) (-x1) x2 x3 (-y0) (-y1) y2 y3 z0 z1 z2 z3 := by
  obtain ⟨e0, e1, e2, e3, dy, dz⟩ := I
  exact ⟨by grind, by grind, e2, e3, by grind, dz⟩
theorem Inv2.neg1 (I : Inv2 a0 a1 a2 a3 x0 x1 x2 x3 y0 y1 y2 y3 z0 z1 z2 z3) :
    Inv2 a0 a1 a2 a3 x0 x1 (-x2) (-x3) y0 y1 (-y2) (-y3) z0 z1 z2 z3 := by
  obtain ⟨e0, e1, e2, e3, dy, dz⟩ := I
  exact ⟨e0, e1, by grind, by grind, by grind, dz⟩
theorem Inv2.det (I : Inv2 a0 a1 a2 a3 x0 x1 x2 x3 y0 y1 y2 y3 z0 z1 z2 z3) : (x0 * x3 - x1 * x2).natAbs = (a0 * a3 - a1 * a2).natAbs := by
  obtain ⟨e0, e1, e2, e3, dy, dz⟩ := I
  have : x0 * x3 - x1 * x2 = (y0 * y3 - y1 * y2) * (a0 * a3 - a1 * a2) * (z0 * z3 - z1 * z2) := by subst e0 e1 e2 e3; grind
  rw [this, Int.natAbs_mul, Int.natAbs_mul]
  have h1 : (y0 * y3 - y1 * y2).natAbs = 1 := by rcases dy with h | h <;> rw [h] <;> rfl
  have h2 : (z0 * z3 - z1 * z2).natAbs = 1 := by rcases dz with h | h <;> rw [h] <;> rfl
  rw [h1, h2, Nat.one_mul, Nat.mul_one]
/-- and of bounded size -/
structure Good2 (a0 a1 a2 a3 x0 x1 x2 x3 y0 y1 y2 y3 z0 z1 z2 z3 : Int) (e : Nat) : Prop where
  inv : Inv2 a0 a1 a2 a3 x0 x1 x2 x3 y0 y1 y2 y3 z0 z1 z2 z3
  bx : x0.natAbs ≤ 1024 ∧ x1.natAbs ≤ 1024 ∧ x2.natAbs ≤ 1024 ∧ x3.natAbs ≤ 1024
  by' : Bd e y0 ∧ Bd e y1 ∧ Bd e y2 ∧ Bd e y3
  bz : Bd e z0 ∧ Bd e z1 ∧ Bd e z2 ∧ Bd e z3
theorem Good2.rows (I : Good2 a0 a1 a2 a3 x0 x1 x2 x3 y0 y1 y2 y3 z0 z1 z2 z3 e) : Good2 a0 a1 a2 a3 x2 x3 x0 x1 y2 y3 y0 y1 z0 z1 z2 z3 e :=
  ⟨I.inv.rows, ⟨I.bx.2.2.1, I.bx.2.2.2, I.bx.1, I.bx.2.1⟩, ⟨I.by'.2.2.1, I.by'.2.2.2, I.by'.1, I.by'.2.1⟩, I.bz⟩
theorem Good2.cols (I : Good2 a0 a1 a2 a3 x0 x1 x2 x3 y0 y1 y2 y3 z0 z1 z2 z3 e) : Good2 a0 a1 a2 a3 x1 x0 x3 x2 y0 y1 y2 y3 z1 z0 z3 z2 e :=
  ⟨I.inv.cols, ⟨I.bx.2.1, I.bx.1, I.bx.2.2.2, I.bx.2.2.1⟩, I.by', ⟨I.bz.2.1, I.bz.1, I.bz.2.2.2, I.bz.2.2.1⟩⟩
theorem x3_le {x0 X1 X2 X3 : Int} (hx : x0 ≠ 0) (h1 : X1.natAbs < x0.natAbs) (h2 : X2.natAbs < x0.natAbs) (hd : (x0 * X3 - X1 * X2).natAbs ≤ 500) : X3.natAbs ≤ 500 + x0.natAbs := by
  have h3 : (x0 * X3).natAbs ≤ (x0 * X3 - X1 * X2).natAbs + (X1 * X2).natAbs := by omega
  rw [Int.natAbs_mul, Int.natAbs_mul X1] at h3
  have h4 : X1.natAbs * X2.natAbs ≤ x0.natAbs * x0.natAbs := Nat.mul_le_mul (Nat.le_of_lt h1) (Nat.le_of_lt h2)
  have h5 : 500 * 1 ≤ 500 * x0.natAbs := Nat.mul_le_mul_left _ (by omega)
  have h6 : x0.natAbs * X3.natAbs ≤ x0.natAbs * (500 + x0.natAbs) := by rw [Nat.mul_add]; omega
  exact Nat.le_of_mul_le_mul_left h6 (by omega)
theorem Good2.clear (I : Good2 a0 a1 a2 a3 x0 x1 x2 x3 y0 y1 y2 y3 z0 z1 z2 z3 e) (hD : (a0 * a3 - a1 * a2).natAbs ≤ 500) (hx : x0 ≠ 0) (hn : x0.natAbs ≤ 512) :
    Good2 a0 a1 a2 a3 x0 (x1 - x1.fdiv x0 * x0) (x2 - x2.fdiv x0 * x0) (x3 - x2.fdiv x0 * x1 - x1.fdiv x0 * (x2 - x2.fdiv x0 * x0)) y0 y1 (y2 - x2.fdiv x0 * y0) (y3 - x2.fdiv x0 * y1) z0 (z1 - x1.fdiv x0 * z0) z2 (z3 - x1.fdiv x0 * z2) (e + 11) := by
  have J := I.inv.clear (x1.fdiv x0) (x2.fdiv x0)
  have r1 := rem_lt (x := x1) hx
  have r2 := rem_lt (x := x2) hx
  have q1 := quo_le hx I.bx.2.1 hn
  have q2 := quo_le hx I.bx.2.2.1 hn
  have hd := J.det
  have r3 := x3_le hx r1 r2 (Nat.le_trans (Nat.le_of_eq hd) hD)
  refine ⟨J, ⟨I.bx.1, by omega, by omega, by omega⟩, ⟨I.by'.1.mono (by omega), I.by'.2.1.mono (by omega), Bd.turn I.by'.2.2.1 I.by'.1 q2, Bd.turn I.by'.2.2.2 I.by'.2.1 q2⟩, ⟨I.bz.1.mono (by omega), Bd.turn I.bz.2.1 I.bz.1 q1, I.bz.2.2.1.mono (by omega), Bd.turn I.bz.2.2.2 I.bz.2.2.1 q1⟩⟩
theorem Good2.add (I : Good2 a0 a1 a2 a3 x0 x1 x2 x3 y0 y1 y2 y3 z0 z1 z2 z3 e) (h1 : x1 = 0) (h2 : x2 = 0) :
    Good2 a0 a1 a2 a3 (x0 + x2) (x1 + x3) x2 x3 (y0 + y2) (y1 + y3) y2 y3 z0 z1 z2 z3 (e + 1) :=
  have m : ∀ {t : Int}, Bd e t → Bd (e + 1) t := fun h => h.mono (by omega)
  ⟨I.inv.add, ⟨by have := I.bx; omega, by have := I.bx; omega, I.bx.2.2.1, I.bx.2.2.2⟩, ⟨I.by'.1.add I.by'.2.2.1, I.by'.2.1.add I.by'.2.2.2, m I.by'.2.2.1, m I.by'.2.2.2⟩, ⟨m I.bz.1, m I.bz.2.1, m I.bz.2.2.1, m I.bz.2.2.2⟩⟩
theorem Good2.neg0 (I : Good2 a0 a1 a2 a3 x0 x1 x2 x3 y0 y1 y2 y3 z0 z1 z2 z3 e) :
    Good2 a0 a1 a2 a3 (-x0) (-x1) x2 x3 (-y0) (-y1) y2 y3 z0 z1 z2 z3 e :=
  ⟨I.inv.neg0, ⟨by have := I.bx; omega, by have := I.bx; omega, I.bx.2.2.1, I.bx.2.2.2⟩, ⟨I.by'.1.neg, I.by'.2.1.neg, I.by'.2.2⟩, I.bz⟩
theorem Good2.neg1 (I : Good2 a0 a1 a2 a3 x0 x1 x2 x3 y0 y1 y2 y3 z0 z1 z2 z3 e) :
    Good2 a0 a1 a2 a3 x0 x1 (-x2) (-x3) y0 y1 (-y2) (-y3) z0 z1 z2 z3 e :=
  ⟨I.inv.neg1, ⟨I.bx.1, I.bx.2.1, by have := I.bx; omega, by have := I.bx; omega⟩, ⟨I.by'.1, I.by'.2.1, I.by'.2.2.1.neg, I.by'.2.2.2.neg⟩, I.bz⟩
end
/-- what the loop ends with -/
structure Fin2 (a0 a1 a2 a3 d1 d2 y0 y1 y2 y3 z0 z1 z2 z3 : Int) : Prop where
  inv : Inv2 a0 a1 a2 a3 d1 0 0 d2 y0 y1 y2 y3 z0 z1 z2 z3
  p1 : 0 < d1
  p2 : 0 < d2
  dv : d2.fmod d1 = 0
  by' : Bd 40000 y0 ∧ Bd 40000 y1 ∧ Bd 40000 y2 ∧ Bd 40000 y3
  bz : Bd 40000 z0 ∧ Bd 40000 z1 ∧ Bd 40000 z2 ∧ Bd 40000 z3

/-- the same for one row -/
structure Inv1 (a0 a1 x0 x1 y0 z0 z1 z2 z3 : Int) : Prop where
  e0 : x0 = y0 * (a0 * z0 + a1 * z2)
  e1 : x1 = y0 * (a0 * z1 + a1 * z3)
  dy : y0 = 1 ∨ y0 = -1
  dz : z0 * z3 - z1 * z2 = 1 ∨ z0 * z3 - z1 * z2 = -1
theorem Inv1.cols {a0 a1 x0 x1 y0 z0 z1 z2 z3 : Int} (I : Inv1 a0 a1 x0 x1 y0 z0 z1 z2 z3) : Inv1 a0 a1 x1 x0 y0 z1 z0 z3 z2 :=
  ⟨I.e1, I.e0, I.dy, by have := I.dz; grind⟩
theorem Inv1.clear {a0 a1 x0 x1 y0 z0 z1 z2 z3 : Int} (I : Inv1 a0 a1 x0 x1 y0 z0 z1 z2 z3) (p : Int) : Inv1 a0 a1 x0 (x1 - p * x0) y0 z0 (z1 - p * z0) z2 (z3 - p * z2) := by
  obtain ⟨e0, e1, dy, dz⟩ := I
  exact ⟨e0, by grind, dy, by grind⟩
theorem Inv1.neg {a0 a1 x0 x1 y0 z0 z1 z2 z3 : Int} (I : Inv1 a0 a1 x0 x1 y0 z0 z1 z2 z3) : Inv1 a0 a1 (-x0) (-x1) (-y0) z0 z1 z2 z3 := by
  obtain ⟨e0, e1, dy, dz⟩ := I
  exact ⟨by grind, by grind, by grind, dz⟩
structure Good1 (a0 a1 x0 x1 y0 z0 z1 z2 z3 : Int) (e : Nat) : Prop where
  inv : Inv1 a0 a1 x0 x1 y0 z0 z1 z2 z3
  bx : x0.natAbs ≤ 1024 ∧ x1.natAbs ≤ 1024
  bz : Bd e z0 ∧ Bd e z1 ∧ Bd e z2 ∧ Bd e z3
theorem Good1.clear {a0 a1 x0 x1 y0 z0 z1 z2 z3 : Int} {e : Nat} (I : Good1 a0 a1 x0 x1 y0 z0 z1 z2 z3 e) (hx : x0 ≠ 0) (hn : x0.natAbs ≤ 512) : Good1 a0 a1 x0 (x1 - x1.fdiv x0 * x0) y0 z0 (z1 - x1.fdiv x0 * z0) z2 (z3 - x1.fdiv x0 * z2) (e + 11) := by
  have r1 := rem_lt (x := x1) hx
  have q1 := quo_le hx I.bx.2 hn
  exact ⟨I.inv.clear _, ⟨I.bx.1, by omega⟩, ⟨I.bz.1.mono (by omega), Bd.turn I.bz.2.1 I.bz.1 q1, I.bz.2.2.1.mono (by omega), Bd.turn I.bz.2.2.2 I.bz.2.2.1 q1⟩⟩
structure Fin1 (a0 a1 d1 y0 z0 z1 z2 z3 : Int) : Prop where
  inv : Inv1 a0 a1 d1 0 y0 z0 z1 z2 z3
  p1 : 0 < d1
  sm : d1.natAbs ≤ 1024
  bz : Bd 40000 z0 ∧ Bd 40000 z1 ∧ Bd 40000 z2 ∧ Bd 40000 z3
theorem Good2.init {x0 x1 x2 x3 : Int} (bm : x0.natAbs ≤ 1024 ∧ x1.natAbs ≤ 1024 ∧ x2.natAbs ≤ 1024 ∧ x3.natAbs ≤ 1024) : Good2 x0 x1 x2 x3 x0 x1 x2 x3 1 0 0 1 1 0 0 1 1 :=
  ⟨⟨by omega, by omega, by omega, by omega, by omega, by omega⟩, bm, by unfold Bd; decide, by unfold Bd; decide⟩
theorem Good1.init {x0 x1 : Int} (bm : x0.natAbs ≤ 1024 ∧ x1.natAbs ≤ 1024) : Good1 x0 x1 x0 x1 1 1 0 0 1 1 :=
  ⟨⟨by omega, by omega, by omega, by omega⟩, bm, by unfold Bd; decide⟩
structure Piv (x0 x1 x2 x3 : Int) : Prop where
  nz : x0 ≠ 0
  m1 : x1 = 0 ∨ x0.natAbs ≤ x1.natAbs
  m2 : x2 = 0 ∨ x0.natAbs ≤ x2.natAbs
  m3 : x3 = 0 ∨ x0.natAbs ≤ x3.natAbs


/-- where the loop of smith_form stands, two rows -/
noncomputable def SH2 (cb cr : Option AV) (b0 b1 b2 b3 x0 x1 x2 x3 y0 y1 y2 y3 z0 z1 z2 z3 st : Int) : AS :=
  ⟨[(Str.ofString "step", .int st), (Str.ofString "s", .ref 5), (Str.ofString "u", .ref 8), (Str.ofString "v", .ref 11), (Str.ofString "width", .int 2)],
   [.lst [.ref 1, .ref 2], .lst [.int b0, .int b1], .lst [.int b2, .int b3], .acell, .acell, .lst [.ref 6, .ref 7], .lst [.int x0, .int x1], .lst [.int x2, .int x3], .lst [.ref 9, .ref 10], .lst [.int y0, .int y1], .lst [.int y2, .int y3], .lst [.ref 12, .ref 13], .lst [.int z0, .int z1], .lst [.int z2, .int z3]]⟩
section
variable {X : Cx} {env : Env} {test : Expr} {hdl : List Stmt} {body : List Stmt} {b0 b1 b2 b3 : Int}
noncomputable def TestT2 (X : Cx) (env : Env) (test : Expr) (b0 b1 b2 b3 st : Int) (b : Bool) : Prop := ∀ (cb cr : Option AV) (x0 x1 x2 x3 y0 y1 y2 y3 z0 z1 z2 z3 : Int) (K : Bool → AS → Prop), K b (SH2 cb cr b0 b1 b2 b3 x0 x1 x2 x3 y0 y1 y2 y3 z0 z1 z2 z3 st) → TrK X (fun _ b a => a = b) (PySem.isTrue test env (eval test env)) (SH2 cb cr b0 b1 b2 b3 x0 x1 x2 x3 y0 y1 y2 y3 z0 z1 z2 z3 st) K
noncomputable def HeadT2 (X : Cx) (env : Env) (hd body : List Stmt) (b0 b1 b2 b3 : Int) : Prop := ∀ (cb cr : Option AV) (x0 x1 x2 x3 y0 y1 y2 y3 z0 z1 z2 z3 : Int) (K : AF → AS → Prop), (x0 ≠ 0 ∨ x1 ≠ 0 ∨ x2 ≠ 0 ∨ x3 ≠ 0) →
  (Piv x0 x1 x2 x3 → ∀ cb cr, TrK X FR (execs body env) (SH2 cb cr b0 b1 b2 b3 x0 x1 x2 x3 y0 y1 y2 y3 z0 z1 z2 z3 0) K) →
  (Piv x1 x0 x3 x2 → ∀ cb cr, TrK X FR (execs body env) (SH2 cb cr b0 b1 b2 b3 x1 x0 x3 x2 y0 y1 y2 y3 z1 z0 z3 z2 0) K) →
  (Piv x2 x3 x0 x1 → ∀ cb cr, TrK X FR (execs body env) (SH2 cb cr b0 b1 b2 b3 x2 x3 x0 x1 y2 y3 y0 y1 z0 z1 z2 z3 0) K) →
  (Piv x3 x2 x1 x0 → ∀ cb cr, TrK X FR (execs body env) (SH2 cb cr b0 b1 b2 b3 x3 x2 x1 x0 y2 y3 y0 y1 z1 z0 z3 z2 0) K) →
  TrK X FR (execs (hd ++ body) env) (SH2 cb cr b0 b1 b2 b3 x0 x1 x2 x3 y0 y1 y2 y3 z0 z1 z2 z3 0) K
noncomputable def TailT2 (X : Cx) (env : Env) (body : List Stmt) (b0 b1 b2 b3 : Int) : Prop := ∀ (cb cr : Option AV) (x0 x1 x2 x3 y0 y1 y2 y3 z0 z1 z2 z3 : Int) (K : AF → AS → Prop), x0 ≠ 0 → Sm x0 → Sm (x1.fdiv x0) → Sm (x2.fdiv x0) →
  ((x2 - x2.fdiv x0 * x0) ≠ 0 → ∀ cb cr, K .cont (SH2 cb cr b0 b1 b2 b3 x0 (x1 - x1.fdiv x0 * x0) (x2 - x2.fdiv x0 * x0) (x3 - x2.fdiv x0 * x1 - x1.fdiv x0 * (x2 - x2.fdiv x0 * x0)) y0 y1 (y2 - x2.fdiv x0 * y0) (y3 - x2.fdiv x0 * y1) z0 (z1 - x1.fdiv x0 * z0) z2 (z3 - x1.fdiv x0 * z2) 0)) →
  ((x2 - x2.fdiv x0 * x0) = 0 → (x1 - x1.fdiv x0 * x0) ≠ 0 → ∀ cb cr, K .cont (SH2 cb cr b0 b1 b2 b3 x0 (x1 - x1.fdiv x0 * x0) (x2 - x2.fdiv x0 * x0) (x3 - x2.fdiv x0 * x1 - x1.fdiv x0 * (x2 - x2.fdiv x0 * x0)) y0 y1 (y2 - x2.fdiv x0 * y0) (y3 - x2.fdiv x0 * y1) z0 (z1 - x1.fdiv x0 * z0) z2 (z3 - x1.fdiv x0 * z2) 0)) →
  ((x2 - x2.fdiv x0 * x0) = 0 → (x1 - x1.fdiv x0 * x0) = 0 → (x3 - x2.fdiv x0 * x1 - x1.fdiv x0 * (x2 - x2.fdiv x0 * x0)).fmod x0 ≠ 0 → ∀ cb cr, K .cont (SH2 cb cr b0 b1 b2 b3 (x0 + (x2 - x2.fdiv x0 * x0)) ((x1 - x1.fdiv x0 * x0) + (x3 - x2.fdiv x0 * x1 - x1.fdiv x0 * (x2 - x2.fdiv x0 * x0))) (x2 - x2.fdiv x0 * x0) (x3 - x2.fdiv x0 * x1 - x1.fdiv x0 * (x2 - x2.fdiv x0 * x0)) (y0 + (y2 - x2.fdiv x0 * y0)) (y1 + (y3 - x2.fdiv x0 * y1)) (y2 - x2.fdiv x0 * y0) (y3 - x2.fdiv x0 * y1) z0 (z1 - x1.fdiv x0 * z0) z2 (z3 - x1.fdiv x0 * z2) 0)) →
  ((x2 - x2.fdiv x0 * x0) = 0 → (x1 - x1.fdiv x0 * x0) = 0 → (x3 - x2.fdiv x0 * x1 - x1.fdiv x0 * (x2 - x2.fdiv x0 * x0)).fmod x0 = 0 → ¬ x0 < 0 → ∀ cb cr, K .next (SH2 cb cr b0 b1 b2 b3 x0 (x1 - x1.fdiv x0 * x0) (x2 - x2.fdiv x0 * x0) (x3 - x2.fdiv x0 * x1 - x1.fdiv x0 * (x2 - x2.fdiv x0 * x0)) y0 y1 (y2 - x2.fdiv x0 * y0) (y3 - x2.fdiv x0 * y1) z0 (z1 - x1.fdiv x0 * z0) z2 (z3 - x1.fdiv x0 * z2) 1)) →
  ((x2 - x2.fdiv x0 * x0) = 0 → (x1 - x1.fdiv x0 * x0) = 0 → (x3 - x2.fdiv x0 * x1 - x1.fdiv x0 * (x2 - x2.fdiv x0 * x0)).fmod x0 = 0 → x0 < 0 → ∀ cb cr, K .next (SH2 cb cr b0 b1 b2 b3 (-x0) (-(x1 - x1.fdiv x0 * x0)) (x2 - x2.fdiv x0 * x0) (x3 - x2.fdiv x0 * x1 - x1.fdiv x0 * (x2 - x2.fdiv x0 * x0)) (-y0) (-y1) (y2 - x2.fdiv x0 * y0) (y3 - x2.fdiv x0 * y1) z0 (z1 - x1.fdiv x0 * z0) z2 (z3 - x1.fdiv x0 * z2) 1)) →
  TrK X FR (execs body env) (SH2 cb cr b0 b1 b2 b3 x0 x1 x2 x3 y0 y1 y2 y3 z0 z1 z2 z3 0) K
noncomputable def StepT2 (X : Cx) (env : Env) (b : List Stmt) (b0 b1 b2 b3 : Int) : Prop := ∀ (cb cr : Option AV) (x0 x1 x2 x3 y0 y1 y2 y3 z0 z1 z2 z3 : Int) (K : AF → AS → Prop), x3 ≠ 0 →
  (¬ x3 < 0 → ∀ cb cr, K .next (SH2 cb cr b0 b1 b2 b3 x0 x1 x2 x3 y0 y1 y2 y3 z0 z1 z2 z3 2)) → (x3 < 0 → ∀ cb cr, K .next (SH2 cb cr b0 b1 b2 b3 x0 x1 (-x2) (-x3) y0 y1 (-y2) (-y3) z0 z1 z2 z3 2)) →
  TrK X FR (execs b env) (SH2 cb cr b0 b1 b2 b3 x0 x1 x2 x3 y0 y1 y2 y3 z0 z1 z2 z3 1) K
/-- the while, its test in the weak form -/
theorem TKW_turnK {S : AS} {K : AF → AS → Prop} {body : List Stmt} (h : TrK X (fun _ b a => a = b) (PySem.isTrue test env (eval test env)) S fun b S1 => (b = true → TrK X FR (execs body env) S1 fun f S2 => match f with | .next | .cont => TrKW X test body env S2 K | .brk => K .next S2 | .ret v => K (.ret v) S2) ∧ (b = false → K .next S1)) : TrKW X test body env S K :=
  fun θ s R Rl p k => while_step (h θ s _ _ Rl p fun b S1 θ1 h1 tk1 c kb R1 p1 v1 => by
    subst v1
    cases c with
    | false => rw [if_neg (by decide)]; exact k _ S1 θ1 h1 tk1 _ (kb.2 rfl) R1 p1 .next
    | true =>
      rw [if_pos rfl]
      refine kb.1 rfl θ1 _ _ _ R1 p1 fun f S2 θ2 h2 tk2 cf k2 R2 p2 v2 => ?_
      cases v2 with
      | next => exact k2 θ2 _ R R2 p2 k
      | cont => exact k2 θ2 _ R R2 p2 k
      | brk => exact k _ S2 θ2 h2 tk2 _ k2 R2 p2 .next
      | ret v => exact k _ S2 θ2 h2 tk2 _ k2 R2 p2 (.ret v))
theorem step2T {K : AF → AS → Prop} (hT1 : TestT2 X env test b0 b1 b2 b3 1 true) (hT2 : TestT2 X env test b0 b1 b2 b3 2 false) (hS : StepT2 X env (hdl ++ body) b0 b1 b2 b3) (hD : b0 * b3 - b1 * b2 ≠ 0)
    (fin : ∀ cb cr d1 d2 y0 y1 y2 y3 z0 z1 z2 z3, Fin2 b0 b1 b2 b3 d1 d2 y0 y1 y2 y3 z0 z1 z2 z3 → K .next (SH2 cb cr b0 b1 b2 b3 d1 0 0 d2 y0 y1 y2 y3 z0 z1 z2 z3 2))
    {x0 x1 x2 x3 y0 y1 y2 y3 z0 z1 z2 z3 : Int} {e : Nat} (cb cr : Option AV) (G : Good2 b0 b1 b2 b3 x0 x1 x2 x3 y0 y1 y2 y3 z0 z1 z2 z3 e) (he : e ≤ 40000) (h1 : x1 = 0) (h2 : x2 = 0) (hx : 0 < x0) (hm : x3.fmod x0 = 0) :
    TrKW X test (hdl ++ body) env (SH2 cb cr b0 b1 b2 b3 x0 x1 x2 x3 y0 y1 y2 y3 z0 z1 z2 z3 1) K := by
  subst h1 h2
  have hd := G.inv.det
  have h3 : x3 ≠ 0 := by
    rintro rfl
    simp only [Int.mul_zero, Int.zero_mul, Int.sub_zero, Int.natAbs_zero] at hd
    omega
  have m : ∀ {t : Int}, Bd e t → Bd 40000 t := fun h => h.mono he
  refine TKW_turnK (hT1 _ _ _ _ _ _ _ _ _ _ _ _ _ _ _ ⟨fun _ => ?_, fun h => by cases h⟩)
  refine hS _ _ _ _ _ _ _ _ _ _ _ _ _ _ _ h3 (fun hp cb cr => ?_) (fun hp cb cr => ?_)
  · refine TKW_turnK (hT2 _ _ _ _ _ _ _ _ _ _ _ _ _ _ _ ⟨(fun h => by cases h), fun _ => ?_⟩)
    exact fin _ _ _ _ _ _ _ _ _ _ _ _ ⟨G.inv, hx, by omega, hm, ⟨m G.by'.1, m G.by'.2.1, m G.by'.2.2.1, m G.by'.2.2.2⟩, ⟨m G.bz.1, m G.bz.2.1, m G.bz.2.2.1, m G.bz.2.2.2⟩⟩
  · refine TKW_turnK (hT2 _ _ _ _ _ _ _ _ _ _ _ _ _ _ _ ⟨(fun h => by cases h), fun _ => ?_⟩)
    have G' := G.neg1
    rw [Int.neg_zero] at G' ⊢
    have hm' : (-x3).fmod x0 = 0 := Int.fmod_eq_zero_of_dvd (Int.dvd_neg.mpr (Int.dvd_of_fmod_eq_zero hm))
    exact fin _ _ _ _ _ _ _ _ _ _ _ _ ⟨G'.inv, hx, by omega, hm', ⟨m G'.by'.1, m G'.by'.2.1, m G'.by'.2.2.1, m G'.by'.2.2.2⟩, ⟨m G'.bz.1, m G'.bz.2.1, m G'.bz.2.2.1, m G'.bz.2.2.2⟩⟩
theorem Piv.le {x0 x1 x2 x3 : Int} (P : Piv x0 x1 x2 x3) {n : Nat} (h : (x0 ≠ 0 ∧ x0.natAbs ≤ n) ∨ (x1 ≠ 0 ∧ x1.natAbs ≤ n) ∨ (x2 ≠ 0 ∧ x2.natAbs ≤ n) ∨ (x3 ≠ 0 ∧ x3.natAbs ≤ n)) : x0.natAbs ≤ n := by
  rcases h with h | h | h | h
  · exact h.2
  · exact Nat.le_trans (P.m1.resolve_left h.1) h.2
  · exact Nat.le_trans (P.m2.resolve_left h.1) h.2
  · exact Nat.le_trans (P.m3.resolve_left h.1) h.2
theorem or4_1 {a b c d : Prop} (h : a ∨ b ∨ c ∨ d) : b ∨ a ∨ d ∨ c := h.elim (fun h => .inr (.inl h)) fun h => h.elim .inl fun h => h.elim (fun h => .inr (.inr (.inr h))) fun h => .inr (.inr (.inl h))
theorem or4_2 {a b c d : Prop} (h : a ∨ b ∨ c ∨ d) : c ∨ d ∨ a ∨ b := h.elim (fun h => .inr (.inr (.inl h))) fun h => h.elim (fun h => .inr (.inr (.inr h))) fun h => h.elim .inl fun h => .inr (.inl h)
theorem or4_nz {x0 x1 x2 x3 : Int} {n : Nat} (h : (x0 ≠ 0 ∧ x0.natAbs ≤ n) ∨ (x1 ≠ 0 ∧ x1.natAbs ≤ n) ∨ (x2 ≠ 0 ∧ x2.natAbs ≤ n) ∨ (x3 ≠ 0 ∧ x3.natAbs ≤ n)) : x0 ≠ 0 ∨ x1 ≠ 0 ∨ x2 ≠ 0 ∨ x3 ≠ 0 := h.elim (fun h => .inl h.1) fun h => h.elim (fun h => .inr (.inl h.1)) fun h => h.elim (fun h => .inr (.inr (.inl h.1))) fun h => .inr (.inr (.inr h.1))
theorem lt_le {a b n : Nat} (h : a < b) (hb : b ≤ n + 1) : a ≤ n := Nat.le_of_lt_succ (Nat.lt_of_lt_of_le h hb)
theorem e11 {e n : Nat} (h : e + 40 * (n + 1) ≤ 30000) : e + 11 + 40 * n ≤ 30000 := by omega
theorem e12 {e n : Nat} (h : e + 40 * (n + 1) ≤ 30000) : e + 11 + 1 + 40 * n ≤ 30000 := by omega
theorem e23 {e n : Nat} (h : e + 40 * (n + 1) ≤ 30000) : e + 11 + 1 + 11 + 40 * n ≤ 30000 := by omega
theorem e4 {e n : Nat} (h : e + 40 * (n + 1) ≤ 30000) : e + 11 ≤ 40000 := by omega
theorem le512 {a n : Nat} (h : a ≤ n + 1) (hn : n + 1 ≤ 512) : a ≤ 512 := Nat.le_trans h hn
theorem Sm_512 {x : Int} (h : x.natAbs ≤ 512) : Sm x := Sm_of (Nat.le_trans h (by decide))
theorem Sm_q {x y : Int} (h : y ≠ 0) (hx : x.natAbs ≤ 1024) (hy : y.natAbs ≤ 512) : Sm (x.fdiv y) := Sm_of (Nat.le_trans (quo_le h hx hy) (by decide))
theorem pos_of {x : Int} (h : x ≠ 0) (hn : ¬ x < 0) : 0 < x := by omega
theorem negp {x : Int} (h : x < 0) : 0 < -x := by omega
theorem neg0' {x : Int} (h : x = 0) : -x = 0 := by omega
theorem piv_0 {x y z w : Int} (P : Piv x y z w) (h : y ≠ 0) (hl : y.natAbs < x.natAbs) : False := by
  have := P.m1
  omega
theorem smith2T {K : AF → AS → Prop} (hT0 : TestT2 X env test b0 b1 b2 b3 0 true) (hT1 : TestT2 X env test b0 b1 b2 b3 1 true) (hT2 : TestT2 X env test b0 b1 b2 b3 2 false) (hH : HeadT2 X env hdl body b0 b1 b2 b3) (hB : TailT2 X env body b0 b1 b2 b3) (hS : StepT2 X env (hdl ++ body) b0 b1 b2 b3)
    (hD : b0 * b3 - b1 * b2 ≠ 0) (hD5 : (b0 * b3 - b1 * b2).natAbs ≤ 500)
    (fin : ∀ cb cr d1 d2 y0 y1 y2 y3 z0 z1 z2 z3, Fin2 b0 b1 b2 b3 d1 d2 y0 y1 y2 y3 z0 z1 z2 z3 → K .next (SH2 cb cr b0 b1 b2 b3 d1 0 0 d2 y0 y1 y2 y3 z0 z1 z2 z3 2)) :
    ∀ (n : Nat) {x0 x1 x2 x3 y0 y1 y2 y3 z0 z1 z2 z3 : Int} {e : Nat} (cb cr : Option AV), n ≤ 512 → Good2 b0 b1 b2 b3 x0 x1 x2 x3 y0 y1 y2 y3 z0 z1 z2 z3 e → e + 40 * n ≤ 30000 →
      (x0 ≠ 0 ∧ x0.natAbs ≤ n) ∨ (x1 ≠ 0 ∧ x1.natAbs ≤ n) ∨ (x2 ≠ 0 ∧ x2.natAbs ≤ n) ∨ (x3 ≠ 0 ∧ x3.natAbs ≤ n) → TrKW X test (hdl ++ body) env (SH2 cb cr b0 b1 b2 b3 x0 x1 x2 x3 y0 y1 y2 y3 z0 z1 z2 z3 0) K
  | 0, _, _, _, _, _, _, _, _, _, _, _, _, _, _, _, _, _, _, hc => by
    rcases hc with h | h | h | h <;> exact absurd (Int.natAbs_eq_zero.mp (Nat.le_zero.mp h.2)) h.1
  | n + 1, x0, x1, x2, x3, y0, y1, y2, y3, z0, z1, z2, z3, e, cb, cr, hn, G, he, hc => by
    have hn' : n ≤ 512 := Nat.le_of_succ_le hn
    have tl : ∀ {x0 x1 x2 x3 y0 y1 y2 y3 z0 z1 z2 z3 : Int} (cb cr : Option AV), Piv x0 x1 x2 x3 → x0.natAbs ≤ n + 1 → Good2 b0 b1 b2 b3 x0 x1 x2 x3 y0 y1 y2 y3 z0 z1 z2 z3 e → TrK X FR (execs body env) (SH2 cb cr b0 b1 b2 b3 x0 x1 x2 x3 y0 y1 y2 y3 z0 z1 z2 z3 0) (fun f S2 => match f with | .next | .cont => TrKW X test (hdl ++ body) env S2 K | .brk => K .next S2 | .ret v => K (.ret v) S2) := by
      clear hc G
      intro x0 x1 x2 x3 y0 y1 y2 y3 z0 z1 z2 z3 cb cr P hx G
      have hx5 := le512 hx hn
      have G' := G.clear hD5 P.nz hx5
      have r1 := rem_lt (x := x1) P.nz
      have r2 := rem_lt (x := x2) P.nz
      refine hB _ _ _ _ _ _ _ _ _ _ _ _ _ _ _ P.nz (Sm_512 hx5) (Sm_q P.nz G.bx.2.1 hx5) (Sm_q P.nz G.bx.2.2.1 hx5)
        (fun c2 cb cr => ?_) (fun c2 c1 cb cr => ?_) (fun c2 c1 cm cb cr => ?_) (fun c2 c1 cm cn cb cr => ?_) (fun c2 c1 cm cn cb cr => ?_)
      · exact smith2T hT0 hT1 hT2 hH hB hS hD hD5 fin n _ _ hn' G' (e11 he) (.inr (.inr (.inl ⟨c2, lt_le r2 hx⟩)))
      · exact smith2T hT0 hT1 hT2 hH hB hS hD hD5 fin n _ _ hn' G' (e11 he) (.inr (.inl ⟨c1, lt_le r1 hx⟩))
      · show TrKW _ _ _ _ _ _
        have G2 := G'.add c1 c2
        clear G G' r1 r2
        generalize (x3 - x2.fdiv x0 * x1 - x1.fdiv x0 * (x2 - x2.fdiv x0 * x0)) = X3 at *
        rw [c1, c2] at G2 ⊢
        simp only [Int.add_zero, Int.zero_add] at G2 ⊢
        clear c1 c2
        have hX3 : X3 ≠ 0 := by rintro rfl; exact cm (Int.zero_fmod _)
        rcases Nat.lt_or_ge X3.natAbs x0.natAbs with hl | hl
        · exact smith2T hT0 hT1 hT2 hH hB hS hD hD5 fin n _ _ hn' G2 (e12 he) (.inr (.inl ⟨hX3, lt_le hl hx⟩))
        · have hne : X3.natAbs ≠ x0.natAbs := by
            intro he
            exact cm (Int.fmod_eq_zero_of_dvd (Int.natAbs_dvd_natAbs.mp (he ▸ Nat.dvd_refl _)))
          have hl : x0.natAbs < X3.natAbs := Nat.lt_of_le_of_ne hl hne.symm
          refine TKW_turnK (hT0 _ _ _ _ _ _ _ _ _ _ _ _ _ _ _ ⟨fun _ => ?_, fun h => by cases h⟩)
          refine hH _ _ _ _ _ _ _ _ _ _ _ _ _ _ _ (.inl P.nz) (fun P' cb cr => ?_) (fun P' cb cr => ?_) (fun P' cb cr => ?_) (fun P' cb cr => ?_)
          · have G3 := G2.clear hD5 P.nz hx5
            have r1 := rem_lt (x := X3) P.nz
            refine hB _ _ _ _ _ _ _ _ _ _ _ _ _ _ _ P.nz (Sm_512 hx5) (Sm_q P.nz G2.bx.2.1 hx5) (Sm_of (by rw [Int.zero_fdiv]; decide))
              (fun c2 cb cr => ?_) (fun c2 c1 cb cr => ?_) (fun c2 c1 cm' cb cr => ?_) (fun c2 c1 cm' cn cb cr => ?_) (fun c2 c1 cm' cn cb cr => ?_)
            · exact absurd (by rw [Int.zero_fdiv, Int.zero_mul]; rfl) c2
            · exact smith2T hT0 hT1 hT2 hH hB hS hD hD5 fin n _ _ hn' G3 (e23 he) (.inr (.inl ⟨c1, lt_le r1 hx⟩))
            · exact absurd (rem_eq ▸ c1) cm
            · exact absurd (rem_eq ▸ c1) cm
            · exact absurd (rem_eq ▸ c1) cm
          · exact (piv_0 P' P.nz hl).elim
          · exact absurd rfl P'.nz
          · exact (P'.m3.elim P.nz fun h => absurd hl (Nat.not_lt.mpr h)).elim
      · exact step2T hT1 hT2 hS hD fin _ _ G' (e4 he) c1 c2 (pos_of P.nz cn) cm
      · refine step2T hT1 hT2 hS hD fin _ _ G'.neg0 (e4 he) (neg0' c1) c2 (negp cn) ?_
        exact Int.fmod_eq_zero_of_dvd (Int.neg_dvd.mpr (Int.dvd_of_fmod_eq_zero cm))
    refine TKW_turnK (hT0 _ _ _ _ _ _ _ _ _ _ _ _ _ _ _ ⟨fun _ => ?_, fun h => by cases h⟩)
    refine hH _ _ _ _ _ _ _ _ _ _ _ _ _ _ _ (or4_nz hc) (fun P cb cr => ?_) (fun P cb cr => ?_) (fun P cb cr => ?_) (fun P cb cr => ?_)
    · exact tl _ _ P (P.le hc) G
    · exact tl _ _ P (P.le (or4_1 hc)) G.cols
    · exact tl _ _ P (P.le (or4_2 hc)) G.rows
    · exact tl _ _ P (P.le (or4_1 (or4_2 hc))) G.rows.cols

theorem smith2T' {K : AF → AS → Prop} (hT0 : TestT2 X env test b0 b1 b2 b3 0 true) (hT1 : TestT2 X env test b0 b1 b2 b3 1 true) (hT2 : TestT2 X env test b0 b1 b2 b3 2 false) (hH : ∀ bd, HeadT2 X env hdl bd b0 b1 b2 b3) (hB : TailT2 X env body b0 b1 b2 b3) (hS : StepT2 X env (hdl ++ body) b0 b1 b2 b3)
    (hD : b0 * b3 - b1 * b2 ≠ 0) (hD5 : (b0 * b3 - b1 * b2).natAbs ≤ 500)
    (fin : ∀ cb cr d1 d2 y0 y1 y2 y3 z0 z1 z2 z3, Fin2 b0 b1 b2 b3 d1 d2 y0 y1 y2 y3 z0 z1 z2 z3 → K .next (SH2 cb cr b0 b1 b2 b3 d1 0 0 d2 y0 y1 y2 y3 z0 z1 z2 z3 2))
    (n : Nat) {x0 x1 x2 x3 y0 y1 y2 y3 z0 z1 z2 z3 : Int} {e : Nat} (cb cr : Option AV) (hn : n ≤ 512) (G : Good2 b0 b1 b2 b3 x0 x1 x2 x3 y0 y1 y2 y3 z0 z1 z2 z3 e) (he : e + 40 * n ≤ 30000)
    (hc : (x0 ≠ 0 ∧ x0.natAbs ≤ n) ∨ (x1 ≠ 0 ∧ x1.natAbs ≤ n) ∨ (x2 ≠ 0 ∧ x2.natAbs ≤ n) ∨ (x3 ≠ 0 ∧ x3.natAbs ≤ n)) : TrKW X test (hdl ++ body) env (SH2 cb cr b0 b1 b2 b3 x0 x1 x2 x3 y0 y1 y2 y3 z0 z1 z2 z3 0) K :=
  smith2T hT0 hT1 hT2 (hH body) hB hS hD hD5 fin n cb cr hn G he hc
/-- the same, one row -/
noncomputable def SH1 (cb cr : Option AV) (b0 b1 x0 x1 y0 z0 z1 z2 z3 st : Int) : AS :=
  ⟨[(Str.ofString "step", .int st), (Str.ofString "s", .ref 4), (Str.ofString "u", .ref 6), (Str.ofString "v", .ref 8), (Str.ofString "width", .int 2)],
   [.lst [.ref 1], .lst [.int b0, .int b1], .acell, .acell, .lst [.ref 5], .lst [.int x0, .int x1], .lst [.ref 7], .lst [.int y0], .lst [.ref 9, .ref 10], .lst [.int z0, .int z1], .lst [.int z2, .int z3]]⟩
noncomputable def TestT1 (X : Cx) (env : Env) (test : Expr) (b0 b1 st : Int) (b : Bool) : Prop := ∀ (cb cr : Option AV) (x0 x1 y0 z0 z1 z2 z3 : Int) (K : Bool → AS → Prop), K b (SH1 cb cr b0 b1 x0 x1 y0 z0 z1 z2 z3 st) → TrK X (fun _ b a => a = b) (PySem.isTrue test env (eval test env)) (SH1 cb cr b0 b1 x0 x1 y0 z0 z1 z2 z3 st) K
noncomputable def HeadT1 (X : Cx) (env : Env) (hd body : List Stmt) (b0 b1 : Int) : Prop := ∀ (cb cr : Option AV) (x0 x1 y0 z0 z1 z2 z3 : Int) (K : AF → AS → Prop), (x0 ≠ 0 ∨ x1 ≠ 0) →
  (x0 ≠ 0 → (x1 = 0 ∨ x0.natAbs ≤ x1.natAbs) → ∀ cb cr, TrK X FR (execs body env) (SH1 cb cr b0 b1 x0 x1 y0 z0 z1 z2 z3 0) K) →
  (x1 ≠ 0 → (x0 = 0 ∨ x1.natAbs ≤ x0.natAbs) → ∀ cb cr, TrK X FR (execs body env) (SH1 cb cr b0 b1 x1 x0 y0 z1 z0 z3 z2 0) K) →
  TrK X FR (execs (hd ++ body) env) (SH1 cb cr b0 b1 x0 x1 y0 z0 z1 z2 z3 0) K
noncomputable def TailT1 (X : Cx) (env : Env) (body : List Stmt) (b0 b1 : Int) : Prop := ∀ (cb cr : Option AV) (x0 x1 y0 z0 z1 z2 z3 : Int) (K : AF → AS → Prop), x0 ≠ 0 → Sm x0 → Sm (x1.fdiv x0) →
  ((x1 - x1.fdiv x0 * x0) ≠ 0 → ∀ cb cr, K .cont (SH1 cb cr b0 b1 x0 (x1 - x1.fdiv x0 * x0) y0 z0 (z1 - x1.fdiv x0 * z0) z2 (z3 - x1.fdiv x0 * z2) 0)) →
  ((x1 - x1.fdiv x0 * x0) = 0 → ¬ x0 < 0 → ∀ cb cr, K .next (SH1 cb cr b0 b1 x0 (x1 - x1.fdiv x0 * x0) y0 z0 (z1 - x1.fdiv x0 * z0) z2 (z3 - x1.fdiv x0 * z2) 1)) →
  ((x1 - x1.fdiv x0 * x0) = 0 → x0 < 0 → ∀ cb cr, K .next (SH1 cb cr b0 b1 (-x0) (-(x1 - x1.fdiv x0 * x0)) (-y0) z0 (z1 - x1.fdiv x0 * z0) z2 (z3 - x1.fdiv x0 * z2) 1)) →
  TrK X FR (execs body env) (SH1 cb cr b0 b1 x0 x1 y0 z0 z1 z2 z3 0) K
theorem smith1T {K : AF → AS → Prop} (hT0 : TestT1 X env test b0 b1 0 true) (hT1 : TestT1 X env test b0 b1 1 false) (hH : HeadT1 X env hdl body b0 b1) (hB : TailT1 X env body b0 b1)
    (fin : ∀ cb cr d1 y0 z0 z1 z2 z3, Fin1 b0 b1 d1 y0 z0 z1 z2 z3 → K .next (SH1 cb cr b0 b1 d1 0 y0 z0 z1 z2 z3 1)) :
    ∀ (n : Nat) {x0 x1 y0 z0 z1 z2 z3 : Int} {e : Nat} (cb cr : Option AV), n ≤ 512 → Good1 b0 b1 x0 x1 y0 z0 z1 z2 z3 e → e + 40 * n ≤ 30000 →
      (x0 ≠ 0 ∧ x0.natAbs ≤ n) ∨ (x1 ≠ 0 ∧ x1.natAbs ≤ n) → TrKW X test (hdl ++ body) env (SH1 cb cr b0 b1 x0 x1 y0 z0 z1 z2 z3 0) K
  | 0, _, _, _, _, _, _, _, _, _, _, _, _, _, hc => by
    rcases hc with h | h <;> exact absurd (Int.natAbs_eq_zero.mp (Nat.le_zero.mp h.2)) h.1
  | n + 1, x0, x1, y0, z0, z1, z2, z3, e, cb, cr, hn, G, he, hc => by
    have hn' : n ≤ 512 := Nat.le_of_succ_le hn
    have tl : ∀ {x0 x1 y0 z0 z1 z2 z3 : Int} (cb cr : Option AV), x0 ≠ 0 → x0.natAbs ≤ n + 1 → Good1 b0 b1 x0 x1 y0 z0 z1 z2 z3 e → TrK X FR (execs body env) (SH1 cb cr b0 b1 x0 x1 y0 z0 z1 z2 z3 0) (fun f S2 => match f with | .next | .cont => TrKW X test (hdl ++ body) env S2 K | .brk => K .next S2 | .ret v => K (.ret v) S2) := by
      clear hc G
      intro x0 x1 y0 z0 z1 z2 z3 cb cr nz hx G
      have hx5 := le512 hx hn
      have G' := G.clear nz hx5
      have r1 := rem_lt (x := x1) nz
      have m : ∀ {t : Int}, Bd (e + 11) t → Bd 40000 t := fun h => h.mono (e4 he)
      refine hB _ _ _ _ _ _ _ _ _ _ nz (Sm_512 hx5) (Sm_q nz G.bx.2 hx5) (fun c1 cb cr => ?_) (fun c1 cn cb cr => ?_) (fun c1 cn cb cr => ?_)
      · exact smith1T hT0 hT1 hH hB fin n _ _ hn' G' (e11 he) (.inr ⟨c1, lt_le r1 hx⟩)
      · show TrKW _ _ _ _ _ _
        refine TKW_turnK (hT1 _ _ _ _ _ _ _ _ _ _ ⟨(fun h => by cases h), fun _ => ?_⟩)
        rw [c1] at G' ⊢
        exact fin _ _ _ _ _ _ _ _ ⟨G'.inv, pos_of nz cn, G'.bx.1, ⟨m G'.bz.1, m G'.bz.2.1, m G'.bz.2.2.1, m G'.bz.2.2.2⟩⟩
      · show TrKW _ _ _ _ _ _
        refine TKW_turnK (hT1 _ _ _ _ _ _ _ _ _ _ ⟨(fun h => by cases h), fun _ => ?_⟩)
        have J := G'.inv.neg
        rw [c1] at J ⊢
        rw [Int.neg_zero] at J ⊢
        exact fin _ _ _ _ _ _ _ _ ⟨J, negp cn, by rw [Int.natAbs_neg]; exact G'.bx.1, ⟨m G'.bz.1, m G'.bz.2.1, m G'.bz.2.2.1, m G'.bz.2.2.2⟩⟩
    refine TKW_turnK (hT0 _ _ _ _ _ _ _ _ _ _ ⟨fun _ => ?_, fun h => by cases h⟩)
    refine hH _ _ _ _ _ _ _ _ _ _ (hc.imp And.left And.left) (fun c0 c1 cb cr => ?_) (fun c0 c1 cb cr => ?_)
    · exact tl _ _ c0 (hc.elim And.right fun h => Nat.le_trans (c1.resolve_left h.1) h.2) G
    · exact tl _ _ c0 (hc.elim (fun h => Nat.le_trans (c1.resolve_left h.1) h.2) And.right) ⟨G.inv.cols, ⟨G.bx.2, G.bx.1⟩, ⟨G.bz.2.1, G.bz.1, G.bz.2.2.2, G.bz.2.2.1⟩⟩
theorem smith1T' {K : AF → AS → Prop} (hT0 : TestT1 X env test b0 b1 0 true) (hT1 : TestT1 X env test b0 b1 1 false) (hH : ∀ bd, HeadT1 X env hdl bd b0 b1) (hB : TailT1 X env body b0 b1)
    (fin : ∀ cb cr d1 y0 z0 z1 z2 z3, Fin1 b0 b1 d1 y0 z0 z1 z2 z3 → K .next (SH1 cb cr b0 b1 d1 0 y0 z0 z1 z2 z3 1))
    (n : Nat) {x0 x1 y0 z0 z1 z2 z3 : Int} {e : Nat} (cb cr : Option AV) (hn : n ≤ 512) (G : Good1 b0 b1 x0 x1 y0 z0 z1 z2 z3 e) (he : e + 40 * n ≤ 30000)
    (hc : (x0 ≠ 0 ∧ x0.natAbs ≤ n) ∨ (x1 ≠ 0 ∧ x1.natAbs ≤ n)) : TrKW X test (hdl ++ body) env (SH1 cb cr b0 b1 x0 x1 y0 z0 z1 z2 z3 0) K :=
  smith1T hT0 hT1 (hH body) hB fin n cb cr hn G he hc
end
section
variable {X : Cx} {S : AS} {env : Env} {K : AV → AS → Prop}
theorem T_str {x : Str} {j : Nat} {pos : Pos} (h : ∀ t, K (.fn (.str x t)) S) : Tr X (eval (.Constant (.str x) j pos) env) S K :=
  fun θ s E Q R p k => wpAny_Constant_str (k _ _ θ s.heap _ _ (h _) R (List.prefix_refl _) .fn)
theorem mul_one_foldl {a : Value} : ∀ (n : Nat) (z : List Value), List.foldl (fun x1 x2 => x1 ++ x2) z.toArray (List.replicate n #[a]) = (z ++ List.replicate n a).toArray
  | 0, z => by simp
  | n + 1, z => by
    rw [List.replicate_succ, List.foldl_cons]
    have := mul_one_foldl (a := a) n (z ++ [a])
    rw [show z.toArray ++ #[a] = (z ++ [a]).toArray by simp, this]
    simp [List.replicate_succ]
theorem A2.rep {R : AV → Value → Prop} {v : AV} {c : Value} (h : R v c) : ∀ n : Nat, A2 R (List.replicate n v) (List.replicate n c)
  | 0 => .nil
  | n + 1 => .cons h (A2.rep h n)
/-- a list of one, so many times -/
theorem T_mulList {k : Nat} {v : AV} {x : Int} (hk : S.hp[k]? = some (.lst [v])) (h0 : 0 ≤ x) (h1 : x < 100) (h : K (.ref S.hp.length) (S.new (.lst (List.replicate x.toNat v)))) : Tr2 X VR (binaryOp .Mult) (.ref k) (.int x) S K := fun θ s E Q c d R p v1 v2 kk => by
  obtain ⟨os, m, oo, F, N, D, l, O, V, e1, o1, _⟩ := R.get hk
  cases v2
  cases VR.refI v1 with
  | mk hA =>
    cases OR.lstI o1 with
    | mk hvs =>
      cases hvs with
      | cons hv hr =>
        cases hr
        rename_i cv
        refine mul_list F N (N _ (List.mem_append_left _ (led_mem hA e1))).1 (by omega) (by omega) (by simp; omega) fun h' F' N' => ?_
        have ld : ∀ q ∈ led θ os ++ X.rest, q.1 < s.heap.objs.size := fun q hq => Heap.lt_size (N q hq).1
        refine kk _ _ (θ ++ [s.heap.objs.size]) h' s.toks _ h (Rel.push (o := listOf (List.replicate x.toNat cv).toArray 0) F' ?_ D ld l O V (.lst (A2.rep (hv.mono ⟨_, rfl⟩) _))) ⟨_, rfl⟩ (.ref ?_)
        · have := mul_one_foldl (a := cv) x.toNat []
          simp only [List.nil_append] at this
          simp only [List.isEmpty_toArray, List.isEmpty_cons, Bool.false_eq_true, if_false] at N'
          rw [show (#[] : Array Value) = [].toArray from rfl, this] at N'
          exact N'
        · rw [O.len, ← l, List.getElem?_concat_length]
end
section
variable {X : Cx} {S : AS} {f : List Value → Sem Value} {vs vs₀ : List AV} {ρ : List Nat} {hp₀ : List AO} {v' : AV} {K : AV → AS → Prop}
end
/-- what the products of whole_solutions want -/
theorem Bd.mul_small {e : Nat} {x r : Int} (h : Bd e x) (hr : r.natAbs ≤ 10000) : Bd (e + 14) (x * r) := by
  unfold Bd at *
  rw [Int.natAbs_mul, Nat.pow_add]
  have e1 : (2 : Nat) ^ 14 = 16384 := by decide
  rw [e1]
  have h1 : x.natAbs * r.natAbs ≤ x.natAbs * 10000 := Nat.mul_le_mul_left _ hr
  omega
theorem Bd.fdiv {e : Nat} {t d : Int} (h : Bd e t) (hd : 0 < d) : Bd (e + 1) (t.fdiv d) := Bd.mono (Nat.lt_of_le_of_lt (Int.natAbs_fdiv_le_natAbs t d) h) (Nat.le_succ e)
theorem mulok {a b : Int} (ha : Bd 50000 a) (hb : Bd 50000 b) : IntMulOk a b :=
  IntMulOk.of_bits (Nat.le_trans (bits_of_Bd ha) (by decide)) (Nat.le_trans (bits_of_Bd hb) (by decide))
theorem mulok_r {a b : Int} (hb : b.natAbs ≤ 10000) : IntMulOk a b := IntMulOk.of_right (Sm_of hb)
theorem Fin2.facts {a0 a1 a2 a3 d1 d2 y0 y1 y2 y3 z0 z1 z2 z3 : Int} (r0 r1 : Int) (F : Fin2 a0 a1 a2 a3 d1 d2 y0 y1 y2 y3 z0 z1 z2 z3) (h0 : r0.natAbs ≤ 10000) (h1 : r1.natAbs ≤ 10000) (hD : (a0 * a3 - a1 * a2).natAbs ≤ 500) :
    (IntMulOk y0 r0 ∧ IntMulOk y1 r1 ∧ IntMulOk y2 r0 ∧ IntMulOk y3 r1) ∧ d1 ≠ 0 ∧ d2 ≠ 0 ∧ Sm d1 ∧ Sm d2 ∧ IntMulOk z0 ((y0 * r0 + y1 * r1).fdiv d1) ∧ IntMulOk z1 ((y2 * r0 + y3 * r1).fdiv d2) ∧ IntMulOk z2 ((y0 * r0 + y1 * r1).fdiv d1) ∧ IntMulOk z3 ((y2 * r0 + y3 * r1).fdiv d2) := by
  have hd := F.inv.det
  simp only [Int.mul_zero, Int.sub_zero, Int.natAbs_mul] at hd
  have p1 := F.p1
  have p2 := F.p2
  have q1 : 1 ≤ d1.natAbs := by omega
  have q2 : 1 ≤ d2.natAbs := by omega
  have l1 : d1.natAbs * 1 ≤ d1.natAbs * d2.natAbs := Nat.mul_le_mul_left _ q2
  have l2 : 1 * d2.natAbs ≤ d1.natAbs * d2.natAbs := Nat.mul_le_mul_right _ q1
  obtain ⟨by0, by1, by2, by3⟩ := F.by'
  obtain ⟨bz0, bz1, bz2, bz3⟩ := F.bz
  have t0 := (((by0.mul_small h0).add (by1.mul_small h1)).fdiv p1).mono (e' := 50000) (by decide)
  have t1 := (((by2.mul_small h0).add (by3.mul_small h1)).fdiv p2).mono (e' := 50000) (by decide)
  have mz : ∀ {z : Int}, Bd 40000 z → Bd 50000 z := fun h => h.mono (by decide)
  exact ⟨⟨mulok_r h0, mulok_r h1, mulok_r h0, mulok_r h1⟩, by omega, by omega, Sm_of (by omega), Sm_of (by omega), mulok (mz bz0) t0, mulok (mz bz1) t1, mulok (mz bz2) t0, mulok (mz bz3) t1⟩
theorem Fin1.facts {a0 a1 d1 y0 z0 z1 z2 z3 : Int} (r0 : Int) (F : Fin1 a0 a1 d1 y0 z0 z1 z2 z3) (h0 : r0.natAbs ≤ 10000) :
    IntMulOk y0 r0 ∧ d1 ≠ 0 ∧ Sm d1 ∧ IntMulOk z0 ((y0 * r0).fdiv d1) ∧ IntMulOk z1 0 ∧ IntMulOk z2 ((y0 * r0).fdiv d1) ∧ IntMulOk z3 0 := by
  have p1 := F.p1
  have := F.sm
  obtain ⟨bz0, bz1, bz2, bz3⟩ := F.bz
  have by0 : Bd 40000 y0 := by
    unfold Bd
    have h1 : y0.natAbs ≤ 1 := by rcases F.inv.dy with h | h <;> rw [h] <;> decide
    have h2 : 2 ^ 1 ≤ 2 ^ 40000 := Nat.pow_le_pow_right (by decide) (by decide)
    omega
  have t0 := ((by0.mul_small h0).fdiv p1).mono (e' := 50000) (by decide)
  have mz : ∀ {z : Int}, Bd 40000 z → Bd 50000 z := fun h => h.mono (by decide)
  exact ⟨mulok_r h0, by omega, Sm_of (by omega), mulok (mz bz0) t0, mulok_r (by decide), mulok (mz bz2) t0, mulok_r (by decide)⟩
theorem Fin2.facts' {a0 a1 a2 a3 d1 d2 y0 y1 y2 y3 z0 z1 z2 z3 r0 r1 : Int} (F : Fin2 a0 a1 a2 a3 d1 d2 y0 y1 y2 y3 z0 z1 z2 z3) (h : r0.natAbs ≤ 10000 ∧ r1.natAbs ≤ 10000) (hD : (a0 * a3 - a1 * a2).natAbs ≤ 500) : (IntMulOk y0 r0 ∧ IntMulOk y1 r1 ∧ IntMulOk y2 r0 ∧ IntMulOk y3 r1) ∧ d1 ≠ 0 ∧ d2 ≠ 0 ∧ Sm d1 ∧ Sm d2 ∧ IntMulOk z0 ((y0 * r0 + y1 * r1).fdiv d1) ∧ IntMulOk z1 ((y2 * r0 + y3 * r1).fdiv d2) ∧ IntMulOk z2 ((y0 * r0 + y1 * r1).fdiv d1) ∧ IntMulOk z3 ((y2 * r0 + y3 * r1).fdiv d2) := F.facts r0 r1 h.1 h.2 hD
section
variable {X : Cx} {S : AS} {env : Env} {K : AV → AS → Prop}
theorem kms_upto {α : Type} (l : List α) (x : Int) (hx : 0 ≤ x) (n : Nat) (hn : n = l.length) : (l.drop (kms_lo none n)).take (kms_hi (some x) n - kms_lo none n) = l.take x.toNat := by
  subst hn
  simp only [kms_lo, kms_hi, if_neg (show ¬ x < 0 by omega), List.drop_zero, Nat.sub_zero]
  rcases Nat.le_total x.toNat l.length with h | h
  · rw [Nat.min_eq_left h]
  · rw [Nat.min_eq_right h, List.take_of_length_le (Nat.le_refl _), List.take_of_length_le h]
theorem A2.ints {θ : List Addr} : ∀ {cs : List Value} {ns : List Int}, IntsAre cs ns → A2 (VR θ) (ns.map AV.int) cs
  | _, _, .nil => .nil
  | _, _, .cons _ _ t => .cons .int (A2.ints t)
/-- a list's head, of a list of this call's or of the world's -/
theorem slice_core {value hi : Expr} {sp : Pos} {θ : List Addr} {s : Shared} {E : Value → Shared → Prop} {Q : Value → Shared → Prop} {a : Addr} {cs : List Value} {vs : List AV} {x : Int} {t : Tok} (hx : 0 ≤ x) (hl : vs.length ≤ 1000) (R : Rel X.h₀ X.L X.rest S θ s.heap) (hL : s.heap.IsList a cs.toArray) (hv : A2 (VR θ) vs cs)
    (hk : K (.ref S.hp.length) (S.new (.lst (vs.take x.toNat)))) (k : ∀ b S' θ' h' tk' a, K b S' → Rel X.h₀ X.L X.rest S' θ' h' → θ <+: θ' → VR θ' b a → Q a { s with heap := h', toks := tk' }) :
    wpAny (model X.prog X.w) X.A (subscriptTail value (.Slice none (some hi) none sp) (.ref a) (.ref s.heap.objs.size)) Q E { s with heap := s.heap.push { cls := .type "slice", data := .fields #[.none, .int x t, .none] } } := by
  obtain ⟨os, m, F, N, D, l, O, V⟩ := R.is
  refine tail_any (Heap.IsList.typeIs (s := { s with heap := s.heap.push { cls := .type "slice", data := .fields #[.none, .int x t, .none] } }) (hL.push _)) list_getitem_lookup
    (wpAny_getItem_list_slice (hL.push _) (Heap.IsSliceOf.new ..) .none (.int x t) .none (by simp) ?_ (by have := hv.len; rw [sizeLine_eq, List.size_toArray]; omega)) (ops := [.ref s.heap.objs.size, .ref a]) (by with_unfolding_all rfl)
  have N1 := News.push (F.push { cls := .type "slice", data := .fields #[.none, .int x t, .none] }) (N.grown fun _ _ e => Heap.get?_push_of_some _ e) (listOf (cs.take x.toNat).toArray 0)
  have e0 : (slicePick cs.toArray none (some x) none) = (cs.take x.toNat).toArray := by
    rw [kms_pick_eq]
    unfold kms_pick
    rw [kms_upto _ _ hx _ rfl]
  rw [e0]
  rw [Heap.size_push] at N1 ⊢
  have ld : ∀ q ∈ led θ os ++ X.rest, q.1 < s.heap.objs.size + 1 := fun q hq => Nat.lt_succ_of_lt (Heap.lt_size (N q hq).1)
  refine k _ _ (θ ++ [s.heap.objs.size + 1]) _ s.toks _ hk (Rel.push ((F.push _).push _) N1 D ld l O V (.lst (hv.take.mono fun _ _ q => q.mono ⟨_, rfl⟩))) ⟨_, rfl⟩ (.ref ?_)
  rw [O.len, ← l, List.getElem?_concat_length]
theorem T_sliceTo {a hi : Expr} {sp pos : Pos} (h : Tr X (eval a env) S fun v S1 => Tr X (eval hi env) S1 fun u S2 => ∃ k vs x, v = .ref k ∧ u = .int x ∧ S2.hp[k]? = some (.lst vs) ∧ 0 ≤ x ∧ vs.length ≤ 1000 ∧ K (.ref S2.hp.length) (S2.new (.lst (vs.take x.toNat)))) : Tr X (eval (.Subscript a (.Slice none (some hi) none sp) pos) env) S K :=
  fun θ s E Q R p kk => Subscript_ (h θ s E _ R p fun v S1 θ1 h1 tk1 c kA R1 p1 va => wpAny_Slice (wpAny_pure (kA θ1 _ E _ R1 (p.trans p1) fun u S2 θ2 h2 tk2 cu kB R2 p2 vu => wpAny_pure (by
    obtain ⟨k, vs, x, rfl, rfl, e1, hx, hl, hK⟩ := kB
    obtain ⟨os, m, oo, F, N, D, l, O, V, e2, o1, _⟩ := R2.get e1
    cases vu
    cases va.mono p2 with
    | ref hA =>
      cases OR.lstI o1 with
      | mk hvs => exact slice_core (s := { s with heap := h2, toks := tk2 }) hx hl R2 ⟨_, (N _ (List.mem_append_left _ (led_mem hA e2))).1, rfl, _, rfl⟩ hvs hK fun b S' θ' h' tk' a kb R' p' v => kk b S' θ' h' tk' a kb R' ((p1.trans p2).trans p') v))))
/-- the same, of a list of ints that the world holds -/
theorem T_sliceFn {a hi : Expr} {sp pos : Pos} {b : Addr} {cs : List Value} {ns : List Int} {x : Int} (hL : X.h₀.IsList b cs.toArray) (hn : IntsAre cs ns) (hx : 0 ≤ x) (hl : ns.length ≤ 1000) (h : Tr X (eval a env) S fun v S1 => v = .fn (.ref b) ∧ Tr X (eval hi env) S1 fun u S2 => u = .int x ∧ K (.ref S2.hp.length) (S2.new (.lst ((ns.take x.toNat).map .int)))) : Tr X (eval (.Subscript a (.Slice none (some hi) none sp) pos) env) S K :=
  fun θ s E Q R p kk => Subscript_ (h θ s E _ R p fun v S1 θ1 h1 tk1 c kA R1 p1 va => wpAny_Slice (wpAny_pure (kA.2 θ1 _ E _ R1 (p.trans p1) fun u S2 θ2 h2 tk2 cu kB R2 p2 vu => wpAny_pure (by
    obtain ⟨rfl, _⟩ := kA
    obtain ⟨rfl, hK⟩ := kB
    obtain ⟨os, m, F, N, D, l, O, V⟩ := R2.is
    cases vu
    cases va
    rw [List.map_take] at hK
    obtain ⟨o, g1, g2⟩ := hL
    exact slice_core (s := { s with heap := h2, toks := tk2 }) hx (by rw [List.length_map]; exact hl) R2 ⟨o, F.keep _ _ g1, g2⟩ (A2.ints hn) hK fun b S' θ' h' tk' a kb R' p' v => kk b S' θ' h' tk' a kb R' ((p1.trans p2).trans p') v))))
/-- an item from behind -/
theorem T_itemNeg {value slice : Expr} {k j : Nat} {x : Int} {vs : List AV} {v : AV} (hk : S.hp[k]? = some (.lst vs)) (h0 : x < 0) (h1 : -(2 ^ 63) ≤ x) (hj : seqIndex? x vs.length = some j) (hv : vs[j]? = some v) (hs : ∀ l t, subscripted slice false (.ref l) (.int x t) = operate [.ref l, .int x t] (getItem (.ref l) (.int x t))) (h : K v S) :
    Tr2 X VR (subscriptTail value slice) (.ref k) (.int x) S K := fun θ s E Q c d R p v1 v2 kk => by
  cases v2
  obtain ⟨os, m, oo, F, N, D, l, O, V, e1, o1, a, ha⟩ := R.get hk
  cases VR.refI v1 with
  | mk h' =>
    cases OR.lstI o1 with
    | mk hvs =>
      obtain ⟨c, hc, hr⟩ := hvs.get hv
      exact kde_neg ⟨_, (N _ (List.mem_append_left _ (led_mem h' e1))).1, rfl, _, rfl⟩ h0 h1 (by rw [← hvs.len]; exact hj) hc (kk _ _ θ s.heap s.toks _ h R (List.prefix_refl _) hr) (hs _ _)
theorem T_int1 {x : Int} (h : K (.int x) S) : TrLs X VR (callF (.type "int")) [.int x] S K := fun θ s E Q cs R p v k => by
  cases v with
  | cons v1 v2 => cases v1; cases v2; exact call_int_int (k _ _ θ s.heap s.toks _ h R (List.prefix_refl _) .int)
end
theorem turn20 (elt t1 i1 t2 i2 c : Expr) (scope : Scope) (pos : Pos) (it acc : Value) (env : Env) :
    compTurn (.ListComp elt [⟨t1, i1, [], 0⟩, ⟨t2, i2, [c], 0⟩] scope pos) 0 it acc env = (standAt i1.pos >>= fun _ => pyNext it >>= fun r => match r with
      | none => pure (.done .next)
      | some v => letOwnedTupleGo t1 it v >>= fun _ => assign t1 env v >>= fun _ => (eval i2 env >>= fun x => standAt i2.pos >>= fun _ => foldedSetIterable i2 env x >>= fun x => holding [x] (pyIter x) >>= fun it2 =>
          runOwn (.compStart (.ListComp elt [⟨t1, i1, [], 0⟩, ⟨t2, i2, [c], 0⟩] scope pos) 1 it2 acc env) env >>= fun _ => again (.compLoop (.ListComp elt [⟨t1, i1, [], 0⟩, ⟨t2, i2, [c], 0⟩] scope pos) 0 it acc env))) := by rfl
theorem turn21 (elt t1 i1 t2 i2 c : Expr) (scope : Scope) (pos : Pos) (it acc : Value) (env : Env) :
    compTurn (.ListComp elt [⟨t1, i1, [], 0⟩, ⟨t2, i2, [c], 0⟩] scope pos) 1 it acc env = (do
      standAt i2.pos
      match ← pyNext it with
      | none => pure (.done .next)
      | some v =>
        letOwnedTupleGo t2 it v
        assign t2 env v
        let mut ok := true
        for c in [c] do
          if ok then ok ← isTrue c env (eval c env)
        if ok then
          (do let _ ← call (.builtin "list.append") [acc, ← eval elt env])
        again (.compLoop (.ListComp elt [⟨t1, i1, [], 0⟩, ⟨t2, i2, [c], 0⟩] scope pos) 1 it acc env)) := by rfl
section
variable {prog : Program} {w : World} {A : Around} {R : Result → Shared → Prop} {s : Shared} {elt t1 i1 t2 i2 c : Expr} {scope : Scope} {pos : Pos} {it acc : Value} {env : Env}
theorem comp_step20
    (h : wpAny (model prog w) A (pyNext it) (fun r s₁ => match r with
      | none => R (.ok .next) s₁
      | some v => wpAny (model prog w) A (letOwnedTupleGo t1 it v) (fun _ s₁' => wpAny (model prog w) A (assign t1 env v) (fun _ s₂ => wpAny (model prog w) A (eval i2 env) (fun x s₃ => wpAny (model prog w) A (pyIter x) (fun it2 s₄ =>
          codeAny (model prog w) A (.compStart (.ListComp elt [⟨t1, i1, [], 0⟩, ⟨t2, i2, [c], 0⟩] scope pos) 1 it2 acc env) (fun r s₅ => match r with
            | .ok _ => codeAny (model prog w) A (.compLoop (.ListComp elt [⟨t1, i1, [], 0⟩, ⟨t2, i2, [c], 0⟩] scope pos) 0 it acc env) R s₅
            | .error _ => False) s₄) NoE s₃) NoE s₂) NoE s₁') NoE s₁) NoE s)
    (hs : ∀ x, foldedSetIterable i2 env x = pure x := by intro _; rfl) :
    codeAny (model prog w) A (.compLoop (.ListComp elt [⟨t1, i1, [], 0⟩, ⟨t2, i2, [c], 0⟩] scope pos) 0 it acc env) R s := by
  refine codeAny_of_tree ?_
  show wpAny _ A ((compTurn (.ListComp elt [⟨t1, i1, [], 0⟩, ⟨t2, i2, [c], 0⟩] scope pos) 0 it acc env).onRaise (fun x => do noteFrame x env; theTreesLotGoes x)) _ _ s
  refine wpAny_noted (noE ?_)
  rw [turn20]
  refine wpAny_bind (wpAny_standAt (wpAny_bind (wpAny_mono h (fun r s₁ h₁ => ?_) fun _ _ f => f)))
  cases r with
  | none => exact wpAny_pure h₁
  | some v =>
    refine wpAny_bind (wpAny_mono h₁ (fun _ s₁' h₁' => ?_) fun _ _ h' => h')
    refine wpAny_bind (wpAny_mono h₁' (fun _ s₂ h₂ => ?_) fun _ _ h' => h')
    refine wpAny_bind (wpAny_mono h₂ (fun x s₃ h₃ => ?_) fun _ _ h' => h')
    refine wpAny_bind (wpAny_standAt ?_)
    rw [hs x]
    refine wpAny_bind (wpAny_pure (wpAny_bind (wpAny_holding (wpAny_mono h₃ (fun it2 s₄ h₄ => ?_) fun _ _ h' => h'))))
    refine wpAny_bind (wpAny_runOwn (codeAny_mono h₄ fun r _ hr => ?_) )
    cases r with
    | ok f => exact wpAny_pure ⟨rfl, hr⟩
    | error e => exact hr.elim
theorem comp_step21
    (h : wpAny (model prog w) A (pyNext it) (fun r s₁ => match r with
      | none => R (.ok .next) s₁
      | some v => wpAny (model prog w) A (letOwnedTupleGo t2 it v) (fun _ s₁' => wpAny (model prog w) A (assign t2 env v) (fun _ s₂ => wpAny (model prog w) A (isTrue c env (eval c env)) (fun ok s₃ =>
          ok = false ∧ codeAny (model prog w) A (.compLoop (.ListComp elt [⟨t1, i1, [], 0⟩, ⟨t2, i2, [c], 0⟩] scope pos) 1 it acc env) R s₃) NoE s₂) NoE s₁') NoE s₁) NoE s) :
    codeAny (model prog w) A (.compLoop (.ListComp elt [⟨t1, i1, [], 0⟩, ⟨t2, i2, [c], 0⟩] scope pos) 1 it acc env) R s := by
  refine codeAny_of_tree ?_
  show wpAny _ A ((compTurn (.ListComp elt [⟨t1, i1, [], 0⟩, ⟨t2, i2, [c], 0⟩] scope pos) 1 it acc env).onRaise (fun x => do noteFrame x env; theTreesLotGoes x)) _ _ s
  refine wpAny_noted (noE ?_)
  rw [turn21]
  refine wpAny_bind (wpAny_standAt (wpAny_bind (wpAny_mono h (fun r s₁ h₁ => ?_) fun _ _ f => f)))
  cases r with
  | none => exact wpAny_pure h₁
  | some v =>
    refine wpAny_bind (wpAny_mono h₁ (fun _ s₁' h₁' => ?_) fun _ _ h' => h')
    refine wpAny_bind (wpAny_mono h₁' (fun _ s₂ h₂ => ?_) fun _ _ h' => h')
    refine wpAny_bind (wpAny_tests_one (wpAny_mono h₂ (fun ok s₃ h₃ => ?_) fun _ _ h' => h'))
    obtain ⟨rfl, h₃⟩ := h₃
    simp only [Bool.false_eq_true, if_false]
    exact wpAny_pure ⟨rfl, h₃⟩
theorem start_1 {e : Expr} (he : e = .ListComp elt [⟨t1, i1, [], 0⟩, ⟨t2, i2, [c], 0⟩] scope pos) (hself : ∀ (Q : Value → Shared → Prop) (E : Value → Shared → Prop), Q it s → wpAny (model prog w) A (pyIter it) Q E s)
    (h : codeAny (model prog w) A (.compLoop e 1 it acc env) R s) : codeAny (model prog w) A (.compStart e 1 it acc env) R s := by
  subst he
  refine codeAny_of_tree ?_
  show wpAny _ _ ((compStart (.ListComp elt [⟨t1, i1, [], 0⟩, ⟨t2, i2, [c], 0⟩] scope pos) 1 it acc env).onRaise (fun x => do noteFrame x env; standAt theWindowsPlace)) _ _ s
  refine wpAny_notedAt ?_
  unfold compStart
  show wpAny _ _ (ask >>= _) _ _ s
  refine wpAny_bind (wpAny_askSetting (wpAny_ite ?_))
  split
  · first
      | exact wpAny_bind (wpAny_pure (wpAny_pure (And.intro rfl h)))
      | exact wpAny_pure (And.intro rfl h)
  · refine wpAny_bind (wpAny_rule ?_)
    show wpAny _ _ (standAt i2.pos >>= _) _ _ s
    exact wpAny_bind (wpAny_standAt (wpAny_bind (hself _ _ (wpAny_pure (And.intro rfl h)))))
end
section
variable {X : Cx} {S : AS} {env : Env} {scope : Scope} {pos px : Pos} {elt i1 t2 i2 c : Expr} {x : Str}
noncomputable def TrCq (X : Cx) (e : Expr) (kI kD : Nat) (env : Env) (S : AS) (K : AS → Prop) : Prop :=
  ∀ θ s I D R, Rel X.h₀ X.L X.rest S θ s.heap → X.θ₀ <+: θ → θ[kI]? = some I → θ[kD]? = some D → (∀ S' θ' h' tk', K S' → Rel X.h₀ X.L X.rest S' θ' h' → θ <+: θ' → R (.ok .next) { s with heap := h', toks := tk' }) → codeAny (model X.prog X.w) X.A (.compLoop e 1 (.ref I) (.ref D) env) R s
theorem TC2_list {K : AS → Prop} {kI kD k i : Nat} {vs : List AV} {v : AV} (e1 : S.hp[kI]? = some (.li k i)) (e2 : S.hp[k]? = some (.lst vs)) (e3 : vs[i]? = some v)
    (h : Tr1 X (fun _ _ _ => True) (assign (.Name x px) env) v (S.put kI (.li k (i + 1))) (fun (_ : Unit) S2 => TrIt X i2 env S2 fun kI2 S3 => (∃ k j, S3.hp[kI2]? = some (.li k j)) ∧ TrCq X (.ListComp elt [⟨.Name x px, i1, [], 0⟩, ⟨t2, i2, [c], 0⟩] scope pos) kI2 kD env S3 fun S4 => TrCp X (.ListComp elt [⟨.Name x px, i1, [], 0⟩, ⟨t2, i2, [c], 0⟩] scope pos) kI kD env S4 K))
    (hs : ∀ x, foldedSetIterable i2 env x = pure x := by intro _; rfl) : TrCp X (.ListComp elt [⟨.Name x px, i1, [], 0⟩, ⟨t2, i2, [c], 0⟩] scope pos) kI kD env S K := fun θ s I Dd Rr R p hI hD kk => by
  obtain ⟨os, m, oo, F, N, D, l, O, V, e4, o1, _⟩ := R.get e1
  obtain ⟨oo2, e5, o2⟩ := O.get e2
  cases OR.liI o1 with
  | mk hk hIt =>
    cases OR.lstI o2 with
    | mk hvs =>
      obtain ⟨cv, hc, hr⟩ := hvs.get e3
      refine comp_step20 (next_list F N D (led_rep hI e4) hIt (List.mem_append_left _ (led_mem hk e5)) (At_of hc) fun h' oI' F' N' hI' => letgo_name ?_) hs
      have R1 := Rel.setR (h := s.heap) hI e4 F' N' D l O V (.li hk hI')
      refine h θ { s with heap := h', toks := s.toks } _ _ cv R1 p hr fun _ S2 θ2 h2 tk2 _ k2 R2 p2 _ => k2 θ2 _ _ R2 (p.trans p2) fun kI2 S3 θ3 h3 tk3 I2 k3 R3 p3 hI2 => ?_
      obtain ⟨⟨k', j', e6⟩, k3⟩ := k3
      obtain ⟨os3, m3, oo3, F3, N3, D3, l3, O3, V3, e7, o3, _⟩ := R3.get e6
      cases OR.liI o3 with
      | mk hk3 hIt3 =>
        have q := p2.trans p3
        refine start_1 rfl (fun Q E hq => self_LI hIt3 _ Q E (N3 _ (List.mem_append_left _ (led_mem hI2 e7))).1 hq) (k3 θ3 _ I2 Dd _ R3 (p.trans q) hI2 (pre_get q hD) fun S4 θ4 h4 tk4 k4 R4 p4 => ?_)
        have q' := q.trans p4
        exact k4 θ4 _ I Dd Rr R4 (p.trans q') (pre_get q' hI) (pre_get q' hD) fun S' θ' h' tk' k' R' p' => kk S' θ' h' tk' k' R' (q'.trans p')
theorem TC2_list0 {K : AS → Prop} {kI kD k i : Nat} {vs : List AV} (e1 : S.hp[kI]? = some (.li k i)) (e2 : S.hp[k]? = some (.lst vs)) (e3 : vs[i]? = none)
    (h : K (S.put kI .gone)) (hs : ∀ x, foldedSetIterable i2 env x = pure x := by intro _; rfl) : TrCp X (.ListComp elt [⟨.Name x px, i1, [], 0⟩, ⟨t2, i2, [c], 0⟩] scope pos) kI kD env S K := fun θ s I Dd Rr R p hI hD kk => by
  obtain ⟨os, m, oo, F, N, D, l, O, V, e4, o1, _⟩ := R.get e1
  obtain ⟨oo2, e5, o2⟩ := O.get e2
  cases OR.liI o1 with
  | mk hk hIt =>
    cases OR.lstI o2 with
    | mk hvs =>
      rename_i cs n
      have hc : cs.toArray[i]? = none := by
        rw [List.getElem?_toArray]; rw [List.getElem?_eq_none_iff] at e3 ⊢; rw [← hvs.len]; exact e3
      exact comp_step20 (next_list_end X.hh F N D (led_tak hI e4) hIt (List.mem_append_left _ (led_mem hk e5)) hc fun h' F' N' D' => kk _ θ h' s.toks h (Rel.kill (h := s.heap) F' N' D' l O V) (List.prefix_refl _)) hs
theorem TCq_list {K : AS → Prop} {t1 : Expr} {kI kD k i : Nat} {vs : List AV} {v : AV} (e1 : S.hp[kI]? = some (.li k i)) (e2 : S.hp[k]? = some (.lst vs)) (e3 : vs[i]? = some v)
    (h : Tr1 X (fun _ _ _ => True) (assign (.Name x px) env) v (S.put kI (.li k (i + 1))) (fun (_ : Unit) S2 => TrB X (PySem.isTrue c env (eval c env)) S2 fun b S3 => b = false ∧ TrCq X (.ListComp elt [⟨t1, i1, [], 0⟩, ⟨.Name x px, i2, [c], 0⟩] scope pos) kI kD env S3 K)) :
    TrCq X (.ListComp elt [⟨t1, i1, [], 0⟩, ⟨.Name x px, i2, [c], 0⟩] scope pos) kI kD env S K := fun θ s I Dd Rr R p hI hD kk => by
  obtain ⟨os, m, oo, F, N, D, l, O, V, e4, o1, _⟩ := R.get e1
  obtain ⟨oo2, e5, o2⟩ := O.get e2
  cases OR.liI o1 with
  | mk hk hIt =>
    cases OR.lstI o2 with
    | mk hvs =>
      obtain ⟨cv, hc, hr⟩ := hvs.get e3
      refine comp_step21 (next_list F N D (led_rep hI e4) hIt (List.mem_append_left _ (led_mem hk e5)) (At_of hc) fun h' oI' F' N' hI' => letgo_name ?_)
      have R1 := Rel.setR (h := s.heap) hI e4 F' N' D l O V (.li hk hI')
      refine h θ { s with heap := h', toks := s.toks } _ _ cv R1 p hr fun _ S2 θ2 h2 tk2 _ k2 R2 p2 _ => k2 θ2 _ _ _ R2 (p.trans p2) fun b S3 θ3 h3 tk3 a k3 R3 p3 v3 => ?_
      have q := p2.trans p3
      exact ⟨v3.trans k3.1, k3.2 θ3 _ I Dd Rr R3 (p.trans q) (pre_get q hI) (pre_get q hD) fun S' θ' h' tk' k' R' p' => kk S' θ' h' tk' k' R' (q.trans p')⟩
theorem TCq_list0 {K : AS → Prop} {t1 : Expr} {kI kD k i : Nat} {vs : List AV} (e1 : S.hp[kI]? = some (.li k i)) (e2 : S.hp[k]? = some (.lst vs)) (e3 : vs[i]? = none)
    (h : K (S.put kI .gone)) : TrCq X (.ListComp elt [⟨t1, i1, [], 0⟩, ⟨.Name x px, i2, [c], 0⟩] scope pos) kI kD env S K := fun θ s I Dd Rr R p hI hD kk => by
  obtain ⟨os, m, oo, F, N, D, l, O, V, e4, o1, _⟩ := R.get e1
  obtain ⟨oo2, e5, o2⟩ := O.get e2
  cases OR.liI o1 with
  | mk hk hIt =>
    cases OR.lstI o2 with
    | mk hvs =>
      rename_i cs n
      have hc : cs.toArray[i]? = none := by
        rw [List.getElem?_toArray]; rw [List.getElem?_eq_none_iff] at e3 ⊢; rw [← hvs.len]; exact e3
      exact comp_step21 (next_list_end X.hh F N D (led_tak hI e4) hIt (List.mem_append_left _ (led_mem hk e5)) hc fun h' F' N' D' => kk _ θ h' s.toks h (Rel.kill (h := s.heap) F' N' D' l O V) (List.prefix_refl _))
end
section
variable {X : Cx} {S : AS} {env : Env} {scope : Scope} {pos px : Pos} {elt iter c : Expr} {x : Str} {cl : List (Str × Addr)} {C : Addr}
theorem ap_get {B : List AO} {a b d : AO} {n : Nat} (hn : B.length = n) : (B ++ [a, b, d])[n]? = some a ∧ (B ++ [a, b, d])[n + 1]? = some b ∧ (B ++ [a, b, d])[n + 2]? = some d := by
  subst hn; refine ⟨?_, ?_, ?_⟩ <;> (rw [List.getElem?_append_right (by omega)]; simp)
theorem ap_set {B : List AO} {a b d e : AO} {n : Nat} (hn : B.length = n) : (B ++ [a, b, d]).set n e = B ++ [e, b, d] ∧ (B ++ [a, b, d]).set (n + 1) e = B ++ [a, e, d] ∧ (B ++ [a, b, d]).set (n + 2) e = B ++ [a, b, e] := by
  subst hn; refine ⟨?_, ?_, ?_⟩ <;> (rw [List.set_append_right _ _ (by omega)]; simp)
/-- a comprehension without a test over a list of any length: each turn tells its item alone -/
theorem TCp_map {K : AS → Prop} {B : List AO} {loc : List (Str × AV)} {n k : Nat} {vs : List AV} {f : AV → AV} (hn : B.length = n) (hC : X.θ₀[n + 2]? = some C) (e2 : B[k]? = some (.lst vs)) (hlen : vs.length ≤ 900)
    (ht : ∀ i l v done K', vs[i]? = some v → K' (f v) ⟨loc, B ++ [.li k (i + 1), .lst done, .ns ((x, v) :: l)]⟩ → Tr X (eval elt (compEnvC scope cl C env)) ⟨loc, B ++ [.li k (i + 1), .lst done, .ns ((x, v) :: l)]⟩ K')
    (hK : ∀ l, K ⟨loc, B ++ [.gone, .lst (vs.map f), .ns l]⟩) (hl : (compEnvC scope cl C env).kindOf x = some .local := by rfl)
    (hk : ((compEnvC scope cl C env).scope.kind == .class || ((compEnvC scope cl C env).scope.kind == .module && (compEnvC scope cl C env).locals != (compEnvC scope cl C env).globals)) = false := by rfl) :
    TrCp X (.ListComp elt [⟨.Name x px, iter, [], 0⟩] scope pos) n (n + 1) (compEnvC scope cl C env) ⟨loc, B ++ [.li k 0, .lst [], .ns []]⟩ K := by
  have hkB : k < B.length := (List.getElem?_eq_some_iff.mp e2).1
  have gk : ∀ t : List AO, (B ++ t)[k]? = some (.lst vs) := fun t => by rw [List.getElem?_append_left hkB]; exact e2
  suffices H : ∀ (m i : Nat) (l : List (Str × AV)), i + m = vs.length → TrCp X (.ListComp elt [⟨.Name x px, iter, [], 0⟩] scope pos) n (n + 1) (compEnvC scope cl C env) ⟨loc, B ++ [.li k i, .lst ((vs.take i).map f), .ns l]⟩ K from H vs.length 0 [] (by omega)
  intro m
  induction m with
  | zero =>
    intro i l hi
    refine TCp_list0 (by decide) (ap_get hn).1 (gk _) (List.getElem?_eq_none_iff.mpr (by omega)) ?_
    rw [show vs.take i = vs from List.take_of_length_le (by omega)]
    show K ⟨loc, (B ++ [_, _, _]).set n .gone⟩
    rw [(ap_set hn).1]
    exact hK l
  | succ m ih =>
    intro i l hi
    obtain ⟨v, hv⟩ : ∃ v, vs[i]? = some v := ⟨vs[i]'(by omega), List.getElem?_eq_some_iff.mpr ⟨by omega, rfl⟩⟩
    refine TCp_list (ap_get hn).1 (gk _) hv ?_
    show Tr1 _ _ _ _ ⟨loc, (B ++ [_, _, _]).set n _⟩ _
    rw [(ap_set hn).1]
    refine T_assignN (T_storeP (kC := n + 2) (l := l) hC (ap_get hn).2.2 ?_ hl hk)
    show Tr _ _ ⟨loc, (B ++ [_, _, _]).set (n + 2) _⟩ _
    rw [(ap_set hn).2.2]
    refine ht i l v _ _ hv ⟨_, (ap_get hn).2.1, by rw [List.length_map, List.length_take]; omega, ?_⟩
    show TrCp _ _ _ _ _ ⟨loc, (B ++ [_, _, _]).set (n + 1) _⟩ _
    rw [(ap_set hn).2.1]
    have e : (vs.take i).map f ++ [f v] = (vs.take (i + 1)).map f := by
      rw [List.take_succ, hv]; simp
    rw [e]
    exact ih (i + 1) _ (by omega)
end
section
variable {X : Cx} {S : AS} {env : Env} {K : AV → AS → Prop}
theorem ints_map (ns : List Int) : ints? (ns.map AV.int) = some ns := by
  induction ns with
  | nil => rfl
  | cons n r ih => simp [ints?, ih]
theorem Rel.il {h₀ h : Heap} {L : Addr} {rest : List (Addr × Obj)} {θ : List Addr} {k : Nat} {vs : List AV} {ns : List Int} (R : Rel h₀ L rest S θ h) (e : S.hp[k]? = some (.lst vs)) (hi : ints? vs = some ns) : Rel h₀ L rest (S.put k (.il ns)) θ h := by
  obtain ⟨os, m, oo, F, N, D, l, O, V, e1, o1, _⟩ := R.get e
  have e2 : os.set k oo = os := by
    refine List.ext_getElem? fun j => ?_
    by_cases hj : k = j
    · subst hj; rw [List.getElem?_set_self (List.getElem?_eq_some_iff.mp e1).1, e1]
    · rw [List.getElem?_set_ne hj]
  cases OR.lstI o1 with
  | mk hv => exact ⟨os, m, F, N, D, l, e2 ▸ O.set k (.il (ints_are hi hv)), V⟩
/-- a list of ints, its items known as ints alone -/
theorem TK_il {α β : Type} {V : List Addr → β → α → Prop} {t : Sem α} {K : β → AS → Prop} {k : Nat} {vs : List AV} {ns : List Int} (e : S.hp[k]? = some (.lst vs)) (hi : ints? vs = some ns) (h : TrK X V t (S.put k (.il ns)) K) : TrK X V t S K := fun θ s E Q R p kk => h θ s E Q (R.il e hi) p kk
theorem T_neIl {k j : Nat} {us : List AV} {ns ms : List Int} (e1 : S.hp[k]? = some (.il ns)) (e2 : S.hp[j]? = some (.lst us)) (h2 : ints? us = some ms) (hu : X.A.units + 64 < cLine) (h : K (.bool (!decide (ns = ms))) S) : Tr2 X VR (compareOp .NotEq) (.ref k) (.ref j) S K := fun θ s E Q c d R p v1 v2 kk => by
  obtain ⟨os, m, oo, F, N, D, l, O, V, e3, o1, _⟩ := R.get e1
  obtain ⟨oo2, e4, o2⟩ := O.get e2
  cases VR.refI v1 with
  | mk hA => cases VR.refI v2 with
    | mk hB => cases o1 with
      | il a1 => cases OR.lstI o2 with
        | mk a2 => exact ne_intsK ⟨_, (N _ (List.mem_append_left _ (led_mem hA e3))).1, rfl, _, rfl⟩ a1 ⟨_, (N _ (List.mem_append_left _ (led_mem hB e4))).1, rfl, _, rfl⟩ (ints_are h2 a2) hu (kk _ _ θ s.heap s.toks _ h R (List.prefix_refl _) .bool)
theorem T_popIl {o e : Expr} {apos pos : Pos} {pl : Sem Bool} (h : Tr X (eval o env) S fun ov S1 => ∃ k ns0, ov = .ref k ∧ S1.hp[k]? = some (.il ns0) ∧ Tr X (eval e env) S1 fun x S2 => x = .int 0 ∧ ∃ y ns, S2.hp[k]? = some (.il (y :: ns)) ∧ ns.length ≤ 1000 ∧ K (.int y) (S2.put k (.il ns)))
    (hm : eval (.Call (.Attribute o (Str.ofString "pop") apos) [e] [] pos) env = (do let ov ← eval o env; standAt apos.atName; let (f, first) ← holding [ov] (getMethod ov (Str.ofString "pop") pl); callWith pos f first (backTo pos (starEach [e] env)) []) := by rfl)
    (hs : starEach (e :: []) env = (false, eval e env) :: starEach [] env := by rfl) : Tr X (eval (.Call (.Attribute o (Str.ofString "pop") apos) [e] [] pos) env) S K := fun θ s E Q R p kk => by
  refine MethodCall_ (h θ s _ _ R p fun ov S1 θ1 h1 tk1 c hk R1 p1 v1 => ?_) hm
  obtain ⟨k, ns0, rfl, e1, h2⟩ := hk
  obtain ⟨os, m, oo, F, N, D, l, O, V, e2, o1, _⟩ := R1.get e1
  cases VR.refI v1 with
  | mk hA =>
    cases o1 with
    | il hvs =>
      refine listMethod_K N (List.mem_append_left _ (led_mem hA e2)) PySem.F.slot_list_pop PySem.F.type_list_pop (callWith_method1 (args_cons (h2 θ1 _ _ _ R1 (p.trans p1) fun x S2 θ2 h2' tk2 cx k2 R2 p2 vx => args_nil ?_) hs) hs)
      obtain ⟨rfl, y, ns, e3, hl, hK⟩ := k2
      obtain ⟨os', m', oo', F', N', D', l', O', V', e4, o2, _⟩ := R2.get e3
      cases vx
      cases o2 with
      | il hvs2 =>
        rename_i cs2 n2
        cases hvs2 with
        | cons _ t hr =>
          rename_i cr
          have hA2 := pre_get p2 hA
          have U := Rep.upd (led_rep' (o' := listOf ([] ++ cr).toArray (n2 + 1)) (r := X.rest) hA2 e4) D'
          refine kl_popAt F' N' rfl (k := 0) ?_ (by rfl) U (by have := hr.length; rw [sizeLine_eq]; simp; omega) fun h3 F3 N3 => ?_
          · simp [seqIndex?]
          · refine kk _ _ θ2 h3 tk2 _ hK (Rel.setR (h := h2') hA2 e4 F3 N3 D' l' O' V' (.il hr)) (p1.trans p2) .int
end
noncomputable def ind (b : Bool) : Int := if b = true then 1 else 0
theorem ind_11 {a b : Int} (h1 : a = 0) (h2 : b = 0) : ind (a == 0 && b == 0) = 1 := by rw [h1, h2]; rfl
theorem ind_0a {a b : Int} (h1 : a ≠ 0) : ind (a == 0 && b == 0) = 0 := by rw [beq_false_of_ne h1]; rfl
theorem ind_0b {a b : Int} (h1 : b ≠ 0) : ind (a == 0 && b == 0) = 0 := by rw [beq_false_of_ne h1, Bool.and_false]; rfl
theorem ind_1 {a : Int} (h1 : a = 0) : ind (a == 0) = 1 := by rw [h1]; rfl
theorem ind_0 {a : Int} (h1 : a ≠ 0) : ind (a == 0) = 0 := by rw [beq_false_of_ne h1]; rfl
noncomputable def cI (P : Int → Int → Bool) (x y : Int) : Nat → Int
  | 0 => 0
  | j + 1 => ind (P x y) + cI P x (y + 1) j
noncomputable def cO (P : Int → Int → Bool) (n : Nat) (x : Int) : Nat → Int
  | 0 => 0
  | j + 1 => cI P x 0 n + cO P n (x + 1) j

/-- the states of the loops: 2 row(s) -/
noncomputable def HO2 (x0 x1 x2 x3 r0 r1 n c x k : Int) : AS := ⟨[(Str.ofString "found", .int c), (Str.ofString "a", .ref 0)], [.lst [.ref 1, .ref 2], .lst [.int x0, .int x1], .lst [.int x2, .int x3], .lst [.int r0, .int r1], .acell, .acell, .cell (some (.int n)), .cell (some (.ref 3)), .ri x k]⟩
noncomputable def HI2 (x0 x1 x2 x3 r0 r1 n c x k8 : Int) (cy : AO) (y k : Int) : AS := ⟨[(Str.ofString "found", .int c), (Str.ofString "a", .ref 0)], [.lst [.ref 1, .ref 2], .lst [.int x0, .int x1], .lst [.int x2, .int x3], .lst [.int r0, .int r1], cy, .cell (some (.int x)), .cell (some (.int n)), .cell (some (.ref 3)), .ri (x + 1) k8, .ri y k]⟩
section
variable {X : Cx} {env : Env} {px py pf : Pos} {itY : Expr} {bI : List Stmt} {x0 x1 x2 x3 r0 r1 n : Int} {P : Int → Int → Bool} {vx vy : Str} {K : AF → AS → Prop}
/-- the body's turn -/
noncomputable def BodyH2 (X : Cx) (env : Env) (bI : List Stmt) (x0 x1 x2 x3 r0 r1 n : Int) (P : Int → Int → Bool) : Prop := ∀ (c x k8 y k : Int) (K : AF → AS → Prop) (θ₂ : List Addr), X.θ₀ <+: θ₂ → θ₂.length = 10 → K .next (HI2 x0 x1 x2 x3 r0 r1 n (c + ind (P x y)) x k8 .acell (y + 1) k) →
  TrK (X.at θ₂) FR (execs bI env) (HI2 x0 x1 x2 x3 r0 r1 n c x k8 (.cell (some (.int y))) (y + 1) k) K
noncomputable def StoreH2 (X : Cx) (env : Env) (v : Str) (k : Nat) : Prop := ∀ (S : AS) (z : Int) (K : AS → Prop), S.hp[k]? = some .acell → K (S.put k (.cell (some (.int z)))) → Tr1 X (fun _ _ _ => True) (storeName env v) (.int z) S (fun (_ : Unit) S' => K S')
theorem hits2_in (hb : BodyH2 X env bI x0 x1 x2 x3 r0 r1 n P) (hy : StoreH2 X env vy 4) {θ₁ : List Addr} (p : X.θ₀ <+: θ₁) (hθ : θ₁.length = 9) {x k8 : Int} :
    ∀ (j : Nat) (c y : Int), K .next ((HI2 x0 x1 x2 x3 r0 r1 n (c + cI P x y j) x k8 .acell 0 0).put 9 .gone) → TrKF (X.at θ₁) (.Name vy py) 9 bI env (HI2 x0 x1 x2 x3 r0 r1 n c x k8 .acell y j) K
  | 0, c, y, hK => TKF_range0 (kI := 9) rfl (Int.le_refl 0) (by rw [show c + cI P x y 0 = c from Int.add_zero c] at hK; exact hK)
  | j + 1, c, y, hK => by
    refine TKF_range (kI := 9) rfl (by omega) ((hy _ y _ rfl ?_).at p)
    intro θ₂ p2 l2
    have hJ : ((j + 1 : Nat) : Int) - 1 = (j : Int) := by omega
    have h := hb c x k8 y (((j + 1 : Nat) : Int) - 1) (fun f S3 => match f with | .next | .cont => TrKF (X.at θ₁) (.Name vy py) 9 bI env S3 K | .brk => K .next S3 | .ret v => K (.ret v) S3) θ₂ (p.trans p2) (l2.trans rfl) ?_
    · exact h
    · show TrKF _ _ _ _ _ _ _
      rw [hJ]
      refine hits2_in hb hy p hθ j _ _ ?_
      rw [Int.add_assoc]
      exact hK
theorem hits2_out (hb : BodyH2 X env bI x0 x1 x2 x3 r0 r1 n P) (hx : StoreH2 X env vx 5) (hy : StoreH2 X env vy 4) (hX : X.θ₀.length = 8) (hn : 0 ≤ n)
    (hit : ∀ (S : AS) (K : Nat → AS → Prop), S.hp[6]? = some (.cell (some (.int n))) → K S.hp.length (S.new (.ri 0 (n - 0))) → TrIt X itY env S K) (hs : ∀ x, foldedSetIterable itY env x = pure x) :
    ∀ (j : Nat) (c x : Int), K .next ((HO2 x0 x1 x2 x3 r0 r1 n (c + cO P n.toNat x j) 0 0).put 8 .gone) → TrKF X (.Name vx px) 8 [.For (.Name vy py) itY bI [] pf] env (HO2 x0 x1 x2 x3 r0 r1 n c x j) K
  | 0, c, x, hK => TKF_range0 (kI := 8) rfl (Int.le_refl 0) (by rw [show c + cO P n.toNat x 0 = c from Int.add_zero c] at hK; exact hK)
  | j + 1, c, x, hK => by
    refine TKF_range (kI := 8) rfl (by omega) (hx _ x _ rfl ?_)
    intro θ₁ p1 l1
    have hJ : ((j + 1 : Nat) : Int) - 1 = (j : Int) := by omega
    refine TK_cons (TK_for (TrIt.at p1 (hit _ _ rfl ?_)) hs)
    have hN : n - 0 = (n.toNat : Int) := by omega
    have h := hits2_in (K := fun f S1 => match f with | .next => TrK (X.at θ₁) FR (execs [] env) S1 (fun f S3 => match f with | .next | .cont => TrKF X (.Name vx px) 8 [.For (.Name vy py) itY bI [] pf] env S3 K | .brk => K .next S3 | .ret v => K (.ret v) S3) | f => (fun f S3 => match f with | .next | .cont => TrKF X (.Name vx px) 8 [.For (.Name vy py) itY bI [] pf] env S3 K | .brk => K .next S3 | .ret v => K (.ret v) S3) f S1) (py := py) (x := x) (k8 := ((j + 1 : Nat) : Int) - 1) hb hy p1 (l1.trans rfl) n.toNat c 0 ?_
    · rw [← hN] at h
      exact h
    · refine TK_nil ?_
      show TrKF _ _ _ _ _ _ _
      refine TKF_weak (k := 5) rfl ?_
      refine TKF_gc (n := 8) (ρ := [0, 1, 2, 3, 4, 5, 6, 7, 8]) (kI' := 8) (S₀ := HO2 x0 x1 x2 x3 r0 r1 n (c + cI P x 0 n.toNat) (x + 1) (((j + 1 : Nat) : Int) - 1)) hX (Gc.of (by decide) (by decide) rfl rfl (dnL.cons rfl rfl (dnL.cons rfl rfl dnL.nil))) rfl ?_
      rw [hJ]
      refine hits2_out hb hx hy hX hn hit hs j _ _ ?_
      rw [Int.add_assoc]
      exact hK
theorem hits2_go (hb : BodyH2 X env bI x0 x1 x2 x3 r0 r1 n P) (hx : StoreH2 X env vx 5) (hy : StoreH2 X env vy 4) (hX : X.θ₀.length = 8) (hn : 0 ≤ n)
    (hit : ∀ (S : AS) (K : Nat → AS → Prop), S.hp[6]? = some (.cell (some (.int n))) → K S.hp.length (S.new (.ri 0 (n - 0))) → TrIt X itY env S K) (hs : ∀ x, foldedSetIterable itY env x = pure x)
    (hK : K .next ((HO2 x0 x1 x2 x3 r0 r1 n (0 + cO P n.toNat 0 n.toNat) 0 0).put 8 .gone)) : TrKF X (.Name vx px) 8 [.For (.Name vy py) itY bI [] pf] env (HO2 x0 x1 x2 x3 r0 r1 n 0 0 (n - 0)) K := by
  have hN : n - 0 = (n.toNat : Int) := by omega
  rw [hN]
  exact hits2_out hb hx hy hX hn hit hs n.toNat 0 0 hK
end

/-- the states of the loops: 1 row(s) -/
noncomputable def HO1 (x0 x1 r0 n c x k : Int) : AS := ⟨[(Str.ofString "found", .int c), (Str.ofString "a", .ref 0)], [.lst [.ref 1], .lst [.int x0, .int x1], .lst [.int r0], .acell, .acell, .cell (some (.int n)), .cell (some (.ref 2)), .ri x k]⟩
noncomputable def HI1 (x0 x1 r0 n c x k8 : Int) (cy : AO) (y k : Int) : AS := ⟨[(Str.ofString "found", .int c), (Str.ofString "a", .ref 0)], [.lst [.ref 1], .lst [.int x0, .int x1], .lst [.int r0], cy, .cell (some (.int x)), .cell (some (.int n)), .cell (some (.ref 2)), .ri (x + 1) k8, .ri y k]⟩
section
variable {X : Cx} {env : Env} {px py pf : Pos} {itY : Expr} {bI : List Stmt} {x0 x1 r0 n : Int} {P : Int → Int → Bool} {vx vy : Str} {K : AF → AS → Prop}
/-- the body's turn -/
noncomputable def BodyH1 (X : Cx) (env : Env) (bI : List Stmt) (x0 x1 r0 n : Int) (P : Int → Int → Bool) : Prop := ∀ (c x k8 y k : Int) (K : AF → AS → Prop) (θ₂ : List Addr), X.θ₀ <+: θ₂ → θ₂.length = 9 → K .next (HI1 x0 x1 r0 n (c + ind (P x y)) x k8 .acell (y + 1) k) →
  TrK (X.at θ₂) FR (execs bI env) (HI1 x0 x1 r0 n c x k8 (.cell (some (.int y))) (y + 1) k) K
noncomputable def StoreH1 (X : Cx) (env : Env) (v : Str) (k : Nat) : Prop := ∀ (S : AS) (z : Int) (K : AS → Prop), S.hp[k]? = some .acell → K (S.put k (.cell (some (.int z)))) → Tr1 X (fun _ _ _ => True) (storeName env v) (.int z) S (fun (_ : Unit) S' => K S')
theorem hits1_in (hb : BodyH1 X env bI x0 x1 r0 n P) (hy : StoreH1 X env vy 3) {θ₁ : List Addr} (p : X.θ₀ <+: θ₁) (hθ : θ₁.length = 8) {x k8 : Int} :
    ∀ (j : Nat) (c y : Int), K .next ((HI1 x0 x1 r0 n (c + cI P x y j) x k8 .acell 0 0).put 8 .gone) → TrKF (X.at θ₁) (.Name vy py) 8 bI env (HI1 x0 x1 r0 n c x k8 .acell y j) K
  | 0, c, y, hK => TKF_range0 (kI := 8) rfl (Int.le_refl 0) (by rw [show c + cI P x y 0 = c from Int.add_zero c] at hK; exact hK)
  | j + 1, c, y, hK => by
    refine TKF_range (kI := 8) rfl (by omega) ((hy _ y _ rfl ?_).at p)
    intro θ₂ p2 l2
    have hJ : ((j + 1 : Nat) : Int) - 1 = (j : Int) := by omega
    have h := hb c x k8 y (((j + 1 : Nat) : Int) - 1) (fun f S3 => match f with | .next | .cont => TrKF (X.at θ₁) (.Name vy py) 8 bI env S3 K | .brk => K .next S3 | .ret v => K (.ret v) S3) θ₂ (p.trans p2) (l2.trans rfl) ?_
    · exact h
    · show TrKF _ _ _ _ _ _ _
      rw [hJ]
      refine hits1_in hb hy p hθ j _ _ ?_
      rw [Int.add_assoc]
      exact hK
theorem hits1_out (hb : BodyH1 X env bI x0 x1 r0 n P) (hx : StoreH1 X env vx 4) (hy : StoreH1 X env vy 3) (hX : X.θ₀.length = 7) (hn : 0 ≤ n)
    (hit : ∀ (S : AS) (K : Nat → AS → Prop), S.hp[5]? = some (.cell (some (.int n))) → K S.hp.length (S.new (.ri 0 (n - 0))) → TrIt X itY env S K) (hs : ∀ x, foldedSetIterable itY env x = pure x) :
    ∀ (j : Nat) (c x : Int), K .next ((HO1 x0 x1 r0 n (c + cO P n.toNat x j) 0 0).put 7 .gone) → TrKF X (.Name vx px) 7 [.For (.Name vy py) itY bI [] pf] env (HO1 x0 x1 r0 n c x j) K
  | 0, c, x, hK => TKF_range0 (kI := 7) rfl (Int.le_refl 0) (by rw [show c + cO P n.toNat x 0 = c from Int.add_zero c] at hK; exact hK)
  | j + 1, c, x, hK => by
    refine TKF_range (kI := 7) rfl (by omega) (hx _ x _ rfl ?_)
    intro θ₁ p1 l1
    have hJ : ((j + 1 : Nat) : Int) - 1 = (j : Int) := by omega
    refine TK_cons (TK_for (TrIt.at p1 (hit _ _ rfl ?_)) hs)
    have hN : n - 0 = (n.toNat : Int) := by omega
    have h := hits1_in (K := fun f S1 => match f with | .next => TrK (X.at θ₁) FR (execs [] env) S1 (fun f S3 => match f with | .next | .cont => TrKF X (.Name vx px) 7 [.For (.Name vy py) itY bI [] pf] env S3 K | .brk => K .next S3 | .ret v => K (.ret v) S3) | f => (fun f S3 => match f with | .next | .cont => TrKF X (.Name vx px) 7 [.For (.Name vy py) itY bI [] pf] env S3 K | .brk => K .next S3 | .ret v => K (.ret v) S3) f S1) (py := py) (x := x) (k8 := ((j + 1 : Nat) : Int) - 1) hb hy p1 (l1.trans rfl) n.toNat c 0 ?_
    · rw [← hN] at h
      exact h
    · refine TK_nil ?_
      show TrKF _ _ _ _ _ _ _
      refine TKF_weak (k := 4) rfl ?_
      refine TKF_gc (n := 7) (ρ := [0, 1, 2, 3, 4, 5, 6, 7]) (kI' := 7) (S₀ := HO1 x0 x1 r0 n (c + cI P x 0 n.toNat) (x + 1) (((j + 1 : Nat) : Int) - 1)) hX (Gc.of (by decide) (by decide) rfl rfl (dnL.cons rfl rfl (dnL.cons rfl rfl dnL.nil))) rfl ?_
      rw [hJ]
      refine hits1_out hb hx hy hX hn hit hs j _ _ ?_
      rw [Int.add_assoc]
      exact hK
theorem hits1_go (hb : BodyH1 X env bI x0 x1 r0 n P) (hx : StoreH1 X env vx 4) (hy : StoreH1 X env vy 3) (hX : X.θ₀.length = 7) (hn : 0 ≤ n)
    (hit : ∀ (S : AS) (K : Nat → AS → Prop), S.hp[5]? = some (.cell (some (.int n))) → K S.hp.length (S.new (.ri 0 (n - 0))) → TrIt X itY env S K) (hs : ∀ x, foldedSetIterable itY env x = pure x)
    (hK : K .next ((HO1 x0 x1 r0 n (0 + cO P n.toNat 0 n.toNat) 0 0).put 7 .gone)) : TrKF X (.Name vx px) 7 [.For (.Name vy py) itY bI [] pf] env (HO1 x0 x1 r0 n 0 0 (n - 0)) K := by
  have hN : n - 0 = (n.toNat : Int) := by omega
  rw [hN]
  exact hits1_out hb hx hy hX hn hit hs n.toNat 0 0 hK
end
/-- the law's own frame -/
abbrev XL0 (w : World) (h₀ : Heap) (L : Addr) (env : Env) (θ : List Addr) : Cx := { prog := prog, w := w, A := callerA.deeper env, h₀ := h₀, L := L, rest := [], θ₀ := θ, hh := rfl }
theorem XL0.fram {w : World} {h₀ : Heap} {L : Addr} {env : Env} {θ : List Addr} {lo : List Str} {me : ExcName → Option Value} {mg mb : Str → Option Value} (KX : (hd.heap_39 w.params).In h₀) (T : Top hd.view_39 lo me mg mb h₀) (hf : env.frame = some L) (hs : env.scope.kind = .function) : Fram (XL0 w h₀ L env θ) env 20 where
  pr := rfl
  k := KX
  t := ⟨_, _, _, _, T⟩
  b := ⟨callerA, h₀, [], below_caller h₀, rfl⟩
  f := hf
  s := hs
  d := by show 1 + claimMargin + 1 + 20 < recursionLimit; decide
  u := by show 4 + 3 + 200 * 20 < cLine; decide
theorem law_enter {w : World} {h₀ : Heap} {L : Addr} {env : Env} {body : List Stmt} {s : Shared} {m : Str → Option Value} {Q : Flow → Shared → Prop} {E : Value → Shared → Prop} {cells : List (Addr × Obj)} {θ : List Addr} {S : AS}
    (F : Fr h₀ L s.heap m) (N : News h₀ L s.heap cells) (hθ : θ = cells.map (·.1)) (hD : Dist (cells.map (·.1))) (hO : A2 (OR θ) S.hp (cells.map fun p => some p.2)) (hV : LocR θ S.loc m)
    (h : TrK (XL0 w h₀ L env θ) FR (execs body env) S fun f _ => f = .ret (.bool true)) (hQ : ∀ m' h' tk' news, Fr h₀ L h' m' → News h₀ L h' news → Q (.ret (.bool true)) { s with heap := h', toks := tk' }) :
    wpAny (model prog w) (callerA.deeper env) (execs body env) Q E s := by
  subst hθ
  refine h _ s E Q ⟨cells.map fun p => some p.2, m, F, ?_, ?_, by simp, hO, hV⟩ (List.prefix_refl _) ?_
  · rw [led_cells]
    intro q hq
    have e : cells ++ ([] : List (Addr × Obj)) = cells := List.append_nil _
    exact N q (by have := hq; simp only [XL0, List.append_nil] at this; exact this)
  · rw [led_cells]
    simp only [XL0, List.append_nil]
    exact hD
  · rintro b S' θ' h' tk' a rfl R' p' v
    cases v with
    | ret v =>
      cases v
      obtain ⟨os', m', F', N', D', l', O', V'⟩ := R'.is
      exact hQ m' h' tk' _ F' N'
theorem with_fram {w : World} {h₀ : Heap} {L : Addr} {env : Env} {body : List Stmt} {S : AS} {K : AF → AS → Prop} {θ : List Addr} {lo : List Str} {me : ExcName → Option Value} {mg mb : Str → Option Value} (KX : (hd.heap_39 w.params).In h₀) (T : Top hd.view_39 lo me mg mb h₀) (hf : env.frame = some L) (hs : env.scope.kind = .function) (h : Fram (XL0 w h₀ L env θ) env 20 → TrK (XL0 w h₀ L env θ) FR (execs body env) S K) : TrK (XL0 w h₀ L env θ) FR (execs body env) S K := h (XL0.fram KX T hf hs)
-- counting modulo n
noncomputable def per (n : Nat) (F : Int → Bool) : Prop := ∀ x, F (x + n) = F x
noncomputable def sI (F : Int → Bool) (y : Int) : Nat → Int
  | 0 => 0
  | j + 1 => ind (F y) + sI F (y + 1) j
theorem cI_eq (P : Int → Int → Bool) (x : Int) : ∀ (j : Nat) (y : Int), cI P x y j = sI (P x) y j
  | 0, _ => rfl
  | j + 1, y => by rw [cI, sI, cI_eq P x j]
theorem sI_snoc (F : Int → Bool) : ∀ (j : Nat) (y : Int), sI F y (j + 1) = sI F y j + ind (F (y + j))
  | 0, y => by simp [sI]
  | j + 1, y => by
    rw [sI, sI_snoc F j, sI]
    have : y + 1 + (j : Int) = y + ((j + 1 : Nat) : Int) := by omega
    rw [this]; omega
theorem sI_step {n : Nat} {F : Int → Bool} (h : per n F) (y : Int) : sI F (y + 1) n = sI F y n := by
  have h1 := sI_snoc F n y
  have h2 : sI F y (n + 1) = ind (F y) + sI F (y + 1) n := rfl
  have h3 := h y
  rw [h3] at h1
  omega
theorem sI_nat {n : Nat} {F : Int → Bool} (h : per n F) (y : Int) : ∀ k : Nat, sI F (y + k) n = sI F y n
  | 0 => by simp
  | k + 1 => by
    have : y + ((k + 1 : Nat) : Int) = (y + k) + 1 := by omega
    rw [this, sI_step h, sI_nat h y k]
/-- where a whole round begins does not matter -/
theorem sI_any {n : Nat} {F : Int → Bool} (h : per n F) (y z : Int) : sI F y n = sI F z n := by
  rcases Int.le_total y z with hl | hl
  · have := sI_nat h y (z - y).toNat
    rw [show y + ((z - y).toNat : Int) = z by omega] at this
    exact this.symm
  · have := sI_nat h z (y - z).toNat
    rw [show z + ((y - z).toNat : Int) = y by omega] at this
    exact this
theorem sI_shift (F : Int → Bool) (s : Int) : ∀ (j : Nat) (y : Int), sI (fun x => F (x + s)) y j = sI F (y + s) j
  | 0, _ => rfl
  | j + 1, y => by rw [sI, sI, sI_shift F s j, show y + 1 + s = y + s + 1 by omega]
theorem sI_congr {F G : Int → Bool} : ∀ (j : Nat) (y : Int), (∀ x, F x = G x) → sI F y j = sI G y j
  | 0, _, _ => rfl
  | j + 1, y, h => by rw [sI, sI, h y, sI_congr j _ h]
theorem cO_congr {P R : Int → Int → Bool} {n : Nat} (h : ∀ x, sI (P x) 0 n = sI (R x) 0 n) : ∀ (j : Nat) (x : Int), cO P n x j = cO R n x j
  | 0, _ => rfl
  | j + 1, x => by rw [cO, cO, cI_eq, cI_eq, h x, cO_congr h j]
/-- y moved by what x says -/
theorem cO_y {R : Int → Int → Bool} {n : Nat} (hp : ∀ x, per n (R x)) (s : Int → Int) (j : Nat) (x : Int) : cO (fun x y => R x (y + s x)) n x j = cO R n x j :=
  cO_congr (fun x => by rw [sI_shift (R x) (s x) n 0]; exact sI_any (hp x) _ _) j x
-- the two sums turned
theorem cO_zero (P : Int → Int → Bool) : ∀ (j : Nat) (x : Int), cO P 0 x j = 0
  | 0, _ => rfl
  | j + 1, x => by rw [cO, cI, cO_zero P j]; rfl
theorem cO_snoc (P : Int → Int → Bool) (n : Nat) : ∀ (j : Nat) (x : Int), cO P (n + 1) x j = cO P n x j + sI (fun x => P x (n : Int)) x j
  | 0, _ => rfl
  | j + 1, x => by
    rw [cO, cO, sI, cO_snoc P n j, cI_eq, cI_eq, sI_snoc]
    simp only [Int.zero_add]
    omega
theorem cO_fub (P : Int → Int → Bool) (m : Nat) : ∀ (n : Nat), cO P n 0 m = cO (fun y x => P x y) m 0 n
  | 0 => by rw [cO_zero]; rfl
  | n + 1 => by
    rw [cO_snoc, cO_fub P m n]
    have : ∀ (j : Nat) (y : Int), cO (fun y x => P x y) m y (j + 1) = cO (fun y x => P x y) m y j + sI (fun x => P x (y + j)) 0 m := by
      intro j
      induction j with
      | zero => intro y; simp [cO, cI_eq]
      | succ j ih =>
        intro y
        rw [cO, ih (y + 1)]
        rw [show y + 1 + (j : Int) = y + ((j + 1 : Nat) : Int) by omega]
        rw [cO]
        omega
    rw [this n 0, Int.zero_add]
/-- x moved by what y says -/
theorem cO_x {R : Int → Int → Bool} {n : Nat} (hp : ∀ y, per n (fun x => R x y)) (s : Int → Int) : cO (fun x y => R (x + s y) y) n 0 n = cO R n 0 n := by
  rw [cO_fub, cO_fub R]
  exact cO_y (R := fun y x => R x y) (hp := hp) s n 0
theorem sI_none {F : Int → Bool} : ∀ (j : Nat) (y : Int), (∀ x, F x = false) → sI F y j = 0
  | 0, _, _ => rfl
  | j + 1, y, h => by rw [sI, h y, sI_none j _ h]; rfl
theorem cO_none {P : Int → Int → Bool} {n : Nat} (h : ∀ x y, P x y = false) : ∀ (j : Nat) (x : Int), cO P n x j = 0
  | 0, _ => rfl
  | j + 1, x => by rw [cO, cI_eq, sI_none n 0 (h x), cO_none h j]; rfl
theorem cO_all {P R : Int → Int → Bool} (h : ∀ x y, P x y = R x y) (n j : Nat) (x : Int) : cO P n x j = cO R n x j := cO_congr (fun x => sI_congr n 0 (h x)) j x
theorem and_dvd {a b n : Int} : (a.fmod n == 0 && b.fmod n == 0) = true ↔ n ∣ a ∧ n ∣ b := by
  rw [Bool.and_eq_true, beq_iff_eq, beq_iff_eq]
  exact ⟨fun h => ⟨Int.dvd_of_fmod_eq_zero h.1, Int.dvd_of_fmod_eq_zero h.2⟩, fun h => ⟨Int.fmod_eq_zero_of_dvd h.1, Int.fmod_eq_zero_of_dvd h.2⟩⟩
theorem one_dvd' {a n : Int} : (a.fmod n == 0) = true ↔ n ∣ a := by
  rw [beq_iff_eq]
  exact ⟨Int.dvd_of_fmod_eq_zero, Int.fmod_eq_zero_of_dvd⟩
theorem dvd_add_mul {n a b k : Int} (h : b = a + n * k) : n ∣ b ↔ n ∣ a := by
  subst h
  exact ⟨fun h => by have := Int.dvd_sub h (Int.dvd_mul_right n k); rwa [Int.add_sub_cancel] at this, fun h => Int.dvd_add h (Int.dvd_mul_right n k)⟩
/-- the diagonal's own hits -/
noncomputable def Q2 (f g c e n : Int) : Int → Int → Bool := fun u v => (f * u - c).fmod n == 0 && (g * v - e).fmod n == 0
section
variable {f g c e : Int} {n : Nat}
theorem Q2_perx (v : Int) : per n (fun u => Q2 f g c e n u v) := fun u => by
  rw [Bool.eq_iff_iff]
  unfold Q2
  rw [and_dvd, and_dvd, dvd_add_mul (b := f * (u + n) - c) (a := f * u - c) (k := f) (by rw [Int.mul_add, Int.mul_comm (n : Int) f]; omega)]
theorem Q2_pery (t u : Int) : per n (fun v => Q2 f g c e n (u + t * v) v) := fun v => by
  rw [Bool.eq_iff_iff]
  show Q2 f g c e n (u + t * (v + n)) (v + n) = true ↔ Q2 f g c e n (u + t * v) v = true
  unfold Q2
  rw [and_dvd, and_dvd, dvd_add_mul (b := f * (u + t * (v + n)) - c) (a := f * (u + t * v) - c) (k := f * t) (by grind), dvd_add_mul (b := g * (v + n) - e) (a := g * v - e) (k := g) (by grind)]
theorem Q2_move {u0 v0 : Int} (hu : f * u0 = c) (hv : g * v0 = e) : cO (Q2 f g c e n) n 0 n = cO (Q2 f g 0 0 n) n 0 n := by
  have h1 : ∀ x y, Q2 f g c e n x y = Q2 f g 0 0 n (x + -u0) (y + -v0) := fun x y => by
    unfold Q2
    rw [← hu, ← hv, Int.mul_add, Int.mul_add, Int.mul_neg, Int.mul_neg]
    simp only [Int.sub_eq_add_neg, Int.neg_zero, Int.add_zero]
  rw [cO_all h1 n n 0]
  have h2 := cO_y (n := n) (R := fun x y => Q2 f g 0 0 n (x + -u0) y) (fun x => by have := Q2_pery (f := f) (g := g) (c := 0) (e := 0) (n := n) 0 (x + -u0); simpa only [Int.zero_mul, Int.add_zero] using this) (fun _ => -v0) n 0
  rw [h2]
  exact cO_x (R := Q2 f g 0 0 n) (fun y => Q2_perx y) (fun _ => -u0)
end
theorem fin_full : ∀ f ∈ [(1 : Int), 2, 3], ∀ k ∈ [(1 : Int), 2], cO (Q2 f (k * f) 0 0 (k * f)) (k * f).toNat 0 (k * f).toNat = f * (k * f) := by decide
theorem fin_some : ∀ f ∈ [(1 : Int), 2, 3], ∀ k ∈ [(1 : Int), 2], ∀ n ∈ [1, 2, 3, 4, 5, 6], cO (Q2 f (k * f) 0 0 (n : Nat)) n 0 n ≠ 0 := by decide
/-- two rows as the law builds them -/
structure Bt2 (f g t0 t1 t2 t3 A B C D : Int) : Prop where
  fp : (0 < f ∧ f ≤ 3) ∧ (g = f ∨ g = 2 * f)
  ht : (t0.natAbs ≤ 3 ∧ t1.natAbs ≤ 3) ∧ t2.natAbs ≤ 3 ∧ t3.natAbs ≤ 3
  eA : A = f + t2 * (0 + t0 * f) + t3 * (0 + t1 * f + t2 * (g + t0 * 0 + t1 * (0 + t0 * f)))
  eB : B = 0 + t1 * f + t2 * (g + t0 * 0 + t1 * (0 + t0 * f))
  eC : C = 0 + t0 * f + t3 * (g + t0 * 0 + t1 * (0 + t0 * f))
  eD : D = g + t0 * 0 + t1 * (0 + t0 * f)
noncomputable def P2 (A B C D r0 r1 n : Int) : Int → Int → Bool := fun x y => (A * x + B * y - r0).fmod n == 0 && (C * x + D * y - r1).fmod n == 0
section
variable {f g t0 t1 t2 t3 A B C D d1 d2 y0 y1 y2 y3 z0 z1 z2 z3 p q p' q' r0 r1 : Int}
theorem bd3 {t x : Int} {k : Nat} (ht : t.natAbs ≤ 3) (hx : x.natAbs ≤ k) : (t * x).natAbs ≤ 3 * k := by
  rw [Int.natAbs_mul]; exact Nat.mul_le_mul ht hx
theorem ad {x y : Int} {m n : Nat} (hx : x.natAbs ≤ m) (hy : y.natAbs ≤ n) : (x + y).natAbs ≤ m + n := Nat.le_trans (Int.natAbs_add_le x y) (Nat.add_le_add hx hy)
theorem fg_na {f g : Int} (h : (0 < f ∧ f ≤ 3) ∧ (g = f ∨ g = 2 * f)) : f.natAbs ≤ 3 ∧ g.natAbs ≤ 6 ∧ g ≤ 6 := by omega
theorem z0n {x : Int} {m : Nat} (h : x.natAbs ≤ m) : (0 + x).natAbs ≤ m := by rw [Int.zero_add]; exact h
theorem t0n {t : Int} : (t * 0).natAbs ≤ 0 := by rw [Int.mul_zero]; exact Nat.le_refl 0
theorem Bt2.bounds (h : Bt2 f g t0 t1 t2 t3 A B C D) : A.natAbs ≤ 354 ∧ B.natAbs ≤ 108 ∧ C.natAbs ≤ 108 ∧ D.natAbs ≤ 33 := by
  obtain ⟨hF, hG, _⟩ := fg_na h.fp
  have h00 : (0 + t0 * f).natAbs ≤ 9 := z0n (bd3 h.ht.1.1 hF)
  have hD : D.natAbs ≤ 33 := h.eD ▸ ad (ad hG t0n) (bd3 h.ht.1.2 h00)
  have hB : B.natAbs ≤ 108 := h.eB ▸ ad (z0n (bd3 h.ht.1.2 hF)) (bd3 h.ht.2.1 (h.eD ▸ hD))
  have hC : C.natAbs ≤ 108 := h.eC ▸ ad h00 (bd3 h.ht.2.2 (h.eD ▸ hD))
  exact ⟨h.eA ▸ ad (ad hF (bd3 h.ht.2.1 h00)) (bd3 h.ht.2.2 (h.eB ▸ hB)), hB, hC, hD⟩
theorem Bt2.det (h : Bt2 f g t0 t1 t2 t3 A B C D) : A * D - B * C = f * g := by
  obtain ⟨_, _, eA, eB, eC, eD⟩ := h
  subst eA eB eC eD
  grind
theorem Bt2.fgb (h : Bt2 f g t0 t1 t2 t3 A B C D) : 0 < f * g ∧ f * g ≤ 18 := by
  obtain ⟨⟨hf, hf3⟩, hg⟩ := h.fp
  have : f = 1 ∨ f = 2 ∨ f = 3 := by omega
  rcases this with rfl | rfl | rfl <;> omega
theorem nab {x : Int} (h : 0 < x ∧ x ≤ 18) : x ≠ 0 ∧ x.natAbs ≤ 500 := by omega
theorem Bt2.hy (h : Bt2 f g t0 t1 t2 t3 A B C D) : ((A ≠ 0 ∧ A.natAbs ≤ 512) ∨ (B ≠ 0 ∧ B.natAbs ≤ 512) ∨ (C ≠ 0 ∧ C.natAbs ≤ 512) ∨ (D ≠ 0 ∧ D.natAbs ≤ 512)) ∧ (A.natAbs ≤ 1024 ∧ B.natAbs ≤ 1024 ∧ C.natAbs ≤ 1024 ∧ D.natAbs ≤ 1024) ∧ A * D - B * C ≠ 0 ∧ (A * D - B * C).natAbs ≤ 500 ∧ Sm A ∧ Sm B ∧ Sm C ∧ Sm D := by
  obtain ⟨hA, hB, hC, hD⟩ := h.bounds
  have hd := nab h.fgb
  rw [← h.det] at hd
  have w : ∀ {x : Int} {m n : Nat}, x.natAbs ≤ m → m ≤ n → x.natAbs ≤ n := fun a b => Nat.le_trans a b
  refine ⟨?_, ⟨w hA (by decide), w hB (by decide), w hC (by decide), w hD (by decide)⟩, hd.1, hd.2, Sm_of (w hA (by decide)), Sm_of (w hB (by decide)), Sm_of (w hC (by decide)), Sm_of (w hD (by decide))⟩
  by_cases a0 : A = 0
  · by_cases b0 : B = 0
    · exact absurd (by rw [a0, b0, Int.zero_mul, Int.zero_mul, Int.sub_zero]) hd.1
    · exact .inr (.inl ⟨b0, w hB (by decide)⟩)
  · exact .inl ⟨a0, w hA (by decide)⟩
section
variable {x0 x1 x2 x3 : Int}
theorem adjA (e0 : x0 = (y0 * A + y1 * C) * z0 + (y0 * B + y1 * D) * z2) (e1 : x1 = (y0 * A + y1 * C) * z1 + (y0 * B + y1 * D) * z3) (e2 : x2 = (y2 * A + y3 * C) * z0 + (y2 * B + y3 * D) * z2) (e3 : x3 = (y2 * A + y3 * C) * z1 + (y2 * B + y3 * D) * z3) :
    A * ((y0 * y3 - y1 * y2) * (z0 * z3 - z1 * z2)) = z3 * (y3 * x0 - y1 * x2) - z2 * (y3 * x1 - y1 * x3) ∧ B * ((y0 * y3 - y1 * y2) * (z0 * z3 - z1 * z2)) = z0 * (y3 * x1 - y1 * x3) - z1 * (y3 * x0 - y1 * x2) ∧
    C * ((y0 * y3 - y1 * y2) * (z0 * z3 - z1 * z2)) = z3 * (y0 * x2 - y2 * x0) - z2 * (y0 * x3 - y2 * x1) ∧ D * ((y0 * y3 - y1 * y2) * (z0 * z3 - z1 * z2)) = z0 * (y0 * x3 - y2 * x1) - z1 * (y0 * x2 - y2 * x0) := by
  subst e0 e1 e2 e3
  refine ⟨by grind, by grind, by grind, by grind⟩
end
theorem unit_dvd {d X M u w : Int} (hu : u = 1 ∨ u = -1) (hw : w = 1 ∨ w = -1) (h : X * (u * w) = d * M) : d ∣ X := by
  rcases hu with rfl | rfl <;> rcases hw with rfl | rfl
  · exact ⟨M, by omega⟩
  · exact ⟨-M, by rw [Int.mul_neg]; omega⟩
  · exact ⟨-M, by rw [Int.mul_neg]; omega⟩
  · exact ⟨M, by omega⟩
theorem na_pos {a b : Int} (h : a.natAbs = b.natAbs) (ha : 0 < a) (hb : 0 < b) : a = b := by omega
theorem Bt2.eqs (h : Bt2 f g t0 t1 t2 t3 A B C D) (F : Fin2 A B C D d1 d2 y0 y1 y2 y3 z0 z1 z2 z3) : d1 = f ∧ d2 = g := by
  have hd := F.inv.det
  rw [h.det] at hd
  simp only [Int.mul_zero, Int.sub_zero] at hd
  have hfg := h.fgb
  have p1 := F.p1
  have p2 := F.p2
  have pp : 0 < d1 * d2 := Int.mul_pos p1 p2
  have hdd : d1 * d2 = f * g := na_pos (by first | exact hd | exact hd.symm) pp hfg.1
  obtain ⟨⟨hf, hf3⟩, hg⟩ := h.fp
  obtain ⟨_, _, eA, eB, eC, eD⟩ := h
  have fg : f ∣ g := by rcases hg with rfl | rfl <;> simp
  obtain ⟨k, hk⟩ := fg
  have dv := F.dv
  obtain ⟨e0, e1, e2, e3, dy, dz⟩ := F.inv
  clear F
  have dA : f ∣ A := ⟨1 + t2 * t0 + t3 * (t1 + t2 * (k + t1 * t0)), by rw [eA, hk]; grind⟩
  have dB : f ∣ B := ⟨t1 + t2 * (k + t1 * t0), by rw [eB, hk]; grind⟩
  have dC : f ∣ C := ⟨t0 + t3 * (k + t1 * t0), by rw [eC, hk]; grind⟩
  have dD : f ∣ D := ⟨k + t1 * t0, by rw [eD, hk]; grind⟩
  have h1 : f ∣ d1 := by
    rw [e0]
    exact Int.dvd_add (Int.dvd_mul_of_dvd_left (Int.dvd_add (Int.dvd_mul_of_dvd_right dA) (Int.dvd_mul_of_dvd_right dC))) (Int.dvd_mul_of_dvd_left (Int.dvd_add (Int.dvd_mul_of_dvd_right dB) (Int.dvd_mul_of_dvd_right dD)))
  obtain ⟨j, hj⟩ := Int.dvd_of_fmod_eq_zero dv
  have key : ∀ X M : Int, X * ((y0 * y3 - y1 * y2) * (z0 * z3 - z1 * z2)) = d1 * M → d1 ∣ X := fun X M hX => unit_dvd dy dz hX
  obtain ⟨kA, kB, kC, kD⟩ := adjA e0 e1 e2 e3
  rw [hj] at kA kB kC kD
  have gA : d1 ∣ A := key A (z3 * y3 + z2 * y1 * j) (by rw [kA]; grind)
  have gB : d1 ∣ B := key B (-(z0 * y1 * j) - z1 * y3) (by rw [kB]; grind)
  have gC : d1 ∣ C := key C (-(y2 * z3) - y0 * z2 * j) (by rw [kC]; grind)
  have gD : d1 ∣ D := key D (y0 * z0 * j + y2 * z1) (by rw [kD]; grind)
  have h2 : d1 ∣ f := by
    have : f = (A - t3 * B) - t2 * (C - t3 * D) := by rw [eA, eB, eC, eD]; grind
    rw [this]
    exact Int.dvd_sub (Int.dvd_sub gA (Int.dvd_mul_of_dvd_right gB)) (Int.dvd_mul_of_dvd_right (Int.dvd_sub gC (Int.dvd_mul_of_dvd_right gD)))
  have h3 : d1 = f := Int.dvd_antisymm (Int.le_of_lt p1) (Int.le_of_lt hf) h2 h1
  refine ⟨h3, ?_⟩
  subst h3
  exact Int.eq_of_mul_eq_mul_left (Int.ne_of_gt p1) hdd
theorem Bt2.rb (h : Bt2 f g t0 t1 t2 t3 A B C D) (hp : p.natAbs ≤ 4 ∧ q.natAbs ≤ 4) : (A * p + B * q).natAbs ≤ 10000 ∧ (C * p + D * q).natAbs ≤ 10000 := by
  obtain ⟨hA, hB, hC, hD⟩ := h.bounds
  have m : ∀ {x y : Int}, x.natAbs ≤ 354 → y.natAbs ≤ 4 → (x * y).natAbs ≤ 354 * 4 := fun hx hy => by rw [Int.natAbs_mul]; exact Nat.mul_le_mul hx hy
  have a1 := m hA hp.1
  have a2 := m (Nat.le_trans hB (by decide)) hp.2
  have a3 := m (Nat.le_trans hC (by decide)) hp.1
  have a4 := m (Nat.le_trans hD (by decide)) hp.2
  exact ⟨Nat.le_trans (ad a1 a2) (by decide), Nat.le_trans (ad a3 a4) (by decide)⟩
/-- seen through the columns -/
theorem Bt2.low (h : Bt2 f g t0 t1 t2 t3 A B C D) (x y : Int) : C * x + D * y = t0 * (f * (x + t1 * (y + t3 * x))) + g * (y + t3 * x) := by
  rw [h.eC, h.eD]; grind
theorem Bt2.up (h : Bt2 f g t0 t1 t2 t3 A B C D) (x y : Int) : A * x + B * y = f * (x + t1 * (y + t3 * x)) + t2 * (C * x + D * y) := by
  rw [h.eA, h.eB, h.eC, h.eD]; grind
theorem Bt2.pq (h : Bt2 f g t0 t1 t2 t3 A B C D) (n x y : Int) : P2 A B C D r0 r1 n x y = Q2 f g (r0 - t2 * r1) (r1 - t0 * (r0 - t2 * r1)) n (x + t1 * (y + t3 * x)) (y + t3 * x) := by
  rw [Bool.eq_iff_iff]
  unfold P2 Q2
  rw [and_dvd, and_dvd]
  have hU := h.up x y
  have hL := h.low x y
  generalize x + t1 * (y + t3 * x) = u at *
  generalize y + t3 * x = v at *
  have e1 : f * u - (r0 - t2 * r1) = (A * x + B * y - r0) - t2 * (C * x + D * y - r1) := by rw [hU]; grind
  have e2 : g * v - (r1 - t0 * (r0 - t2 * r1)) = (C * x + D * y - r1) - t0 * (f * u - (r0 - t2 * r1)) := by rw [hL]; grind
  rw [e2, e1]
  constructor
  · rintro ⟨a, b⟩
    have c := Int.dvd_sub a (Int.dvd_mul_of_dvd_right (b := t2) b)
    exact ⟨c, Int.dvd_sub b (Int.dvd_mul_of_dvd_right (b := t0) c)⟩
  · rintro ⟨a, b⟩
    have c : n ∣ C * x + D * y - r1 := by
      have := Int.dvd_add b (Int.dvd_mul_of_dvd_right (b := t0) a)
      rwa [Int.sub_add_cancel] at this
    refine ⟨?_, c⟩
    have := Int.dvd_add a (Int.dvd_mul_of_dvd_right (b := t2) c)
    rwa [Int.sub_add_cancel] at this
theorem Bt2.cnt (h : Bt2 f g t0 t1 t2 t3 A B C D) (n : Nat) : cO (P2 A B C D r0 r1 n) n 0 n = cO (Q2 f g (r0 - t2 * r1) (r1 - t0 * (r0 - t2 * r1)) n) n 0 n := by
  rw [cO_all (h.pq n) n n 0]
  have h1 := cO_y (n := n) (R := fun x y => Q2 f g (r0 - t2 * r1) (r1 - t0 * (r0 - t2 * r1)) n (x + t1 * y) y) (fun x => Q2_pery t1 x) (fun x => t3 * x) n 0
  rw [h1]
  exact cO_x (R := Q2 f g (r0 - t2 * r1) (r1 - t0 * (r0 - t2 * r1)) n) (fun y => Q2_perx y) (fun y => t1 * y)
theorem Bt2.base (h : Bt2 f g t0 t1 t2 t3 A B C D) (hs : A * p + B * q = r0 ∧ C * p + D * q = r1) (n : Nat) : cO (P2 A B C D r0 r1 n) n 0 n = cO (Q2 f g 0 0 n) n 0 n := by
  rw [h.cnt n]
  have hU := h.up p q
  have hL := h.low p q
  rw [hs.1, hs.2] at hU
  rw [hs.2] at hL
  exact Q2_move (u0 := p + t1 * (q + t3 * p)) (v0 := q + t3 * p) (by omega) (by
    have e : f * (p + t1 * (q + t3 * p)) = r0 - t2 * r1 := by omega
    rw [e] at hL; omega)
theorem Bt2.fk (h : Bt2 f g t0 t1 t2 t3 A B C D) : f ∈ [(1 : Int), 2, 3] ∧ ∃ k ∈ [(1 : Int), 2], g = k * f := by
  obtain ⟨⟨hf, hf3⟩, hg⟩ := h.fp
  refine ⟨?_, ?_⟩
  · have : f = 1 ∨ f = 2 ∨ f = 3 := by omega
    rcases this with rfl | rfl | rfl <;> decide
  · rcases hg with rfl | rfl
    · exact ⟨1, by decide, by omega⟩
    · exact ⟨2, by decide, rfl⟩
theorem Bt2.none (h : Bt2 f g t0 t1 t2 t3 A B C D) (hn : ∀ p q, ¬ (A * p + B * q = r0 ∧ C * p + D * q = r1)) : 0 + cO (P2 A B C D r0 r1 g) g.toNat 0 g.toNat = 0 := by
  rw [Int.zero_add]
  refine cO_none (fun x y => ?_) _ _
  rw [Bool.eq_false_iff]
  intro ht
  rw [h.pq] at ht
  unfold Q2 at ht
  obtain ⟨h1, h2⟩ := and_dvd.mp ht
  obtain ⟨⟨hf, hf3⟩, hg⟩ := h.fp
  have fg : f ∣ g := by rcases hg with rfl | rfl <;> simp
  have h3 : f ∣ r0 - t2 * r1 := by
    have := Int.dvd_sub (Int.dvd_mul_right f (x + t1 * (y + t3 * x))) (Int.dvd_trans fg h1)
    rwa [Int.sub_sub_self] at this
  have h4 : g ∣ r1 - t0 * (r0 - t2 * r1) := by
    have := Int.dvd_sub (Int.dvd_mul_right g (y + t3 * x)) h2
    rwa [Int.sub_sub_self] at this
  obtain ⟨a, ha⟩ := h3
  obtain ⟨b, hb⟩ := h4
  have eu : (a - t1 * b) + t1 * ((b - t3 * (a - t1 * b)) + t3 * (a - t1 * b)) = a := by grind
  have ev : (b - t3 * (a - t1 * b)) + t3 * (a - t1 * b) = b := by grind
  have hL := h.low (a - t1 * b) (b - t3 * (a - t1 * b))
  have hU := h.up (a - t1 * b) (b - t3 * (a - t1 * b))
  rw [ev] at hL hU
  rw [Int.sub_add_cancel] at hL hU
  rw [← ha, ← hb] at hL
  rw [← ha] at hU
  have e1 : C * (a - t1 * b) + D * (b - t3 * (a - t1 * b)) = r1 := by omega
  rw [e1] at hU
  exact hn _ _ ⟨by omega, e1⟩
theorem Bt2.full (h : Bt2 f g t0 t1 t2 t3 A B C D) (hs : A * p + B * q = r0 ∧ C * p + D * q = r1) : 0 + cO (P2 A B C D r0 r1 g) g.toNat 0 g.toNat = f * g := by
  have hb := h.base hs g.toNat
  obtain ⟨⟨hf, hf3⟩, hg⟩ := h.fp
  have e : (g.toNat : Int) = g := by omega
  rw [e] at hb
  rw [Int.zero_add, hb]
  obtain ⟨h1, k, hk, rfl⟩ := h.fk
  exact fin_full f h1 k hk
theorem n16 {n : Nat} (h1 : 1 ≤ n) (h2 : n ≤ 6) : n ∈ [1, 2, 3, 4, 5, 6] := show n ∈ List.range' 1 6 from List.mem_range'_1.mpr ⟨h1, Nat.lt_succ_of_le h2⟩
theorem nle6 {n : Nat} {g : Int} (h : (n : Int) ≤ g) (hg : g ≤ 6) : n ≤ 6 := by omega
theorem Bt2.some (h : Bt2 f g t0 t1 t2 t3 A B C D) (hs : A * p + B * q = r0 ∧ C * p + D * q = r1) {n : Nat} (h1 : 1 ≤ n) (h2 : (n : Int) ≤ g) : 0 + cO (P2 A B C D r0 r1 n) n 0 n ≠ 0 := by
  rw [Int.zero_add, h.base hs n]
  have hn : n ∈ [1, 2, 3, 4, 5, 6] := n16 h1 (nle6 h2 (fg_na h.fp).2.2)
  obtain ⟨h3, k, hk, rfl⟩ := h.fk
  exact fin_some f h3 k hk n hn
theorem Bt2.uniq (h : Bt2 f g t0 t1 t2 t3 A B C D) (hs : A * p + B * q = r0 ∧ C * p + D * q = r1) (hs' : A * p' + B * q' = r0 ∧ C * p' + D * q' = r1) : p' = p ∧ q' = q := by
  have hd := h.det
  have hfg := h.fgb
  have e1 : (A * D - B * C) * (p' - p) = 0 := by
    have : (A * D - B * C) * (p' - p) = D * ((A * p' + B * q') - (A * p + B * q)) - B * ((C * p' + D * q') - (C * p + D * q)) := by grind
    rw [this, hs.1, hs.2, hs'.1, hs'.2]; omega
  have e2 : (A * D - B * C) * (q' - q) = 0 := by
    have : (A * D - B * C) * (q' - q) = A * ((C * p' + D * q') - (C * p + D * q)) - C * ((A * p' + B * q') - (A * p + B * q)) := by grind
    rw [this, hs.1, hs.2, hs'.1, hs'.2]; omega
  rw [hd] at e1 e2
  have a1 := (Int.mul_eq_zero.mp e1).resolve_left (by omega)
  have a2 := (Int.mul_eq_zero.mp e2).resolve_left (by omega)
  omega
theorem genB {Q : Int → Int → Int → Int → Prop} {a b c d : Int} (h : Bt2 f g t0 t1 t2 t3 a b c d) (k : ∀ A B C D, Bt2 f g t0 t1 t2 t3 A B C D → Q A B C D) : Q a b c d := k _ _ _ _ h
end
theorem of_unit {d x : Int} (h : d = 1 ∨ d = -1) (e : d * x = 0) : x = 0 := by rcases h with rfl | rfl <;> omega
section
variable {A B C D d1 d2 y0 y1 y2 y3 z0 z1 z2 z3 r0 r1 p q : Int}
theorem lin2 {m0 m1 : Int} (h0 : y0 * m0 + y1 * m1 = 0) (h1 : y2 * m0 + y3 * m1 = 0) : (y0 * y3 - y1 * y2) * m0 = 0 ∧ (y0 * y3 - y1 * y2) * m1 = 0 := by
  constructor
  · have : (y0 * y3 - y1 * y2) * m0 = y3 * (y0 * m0 + y1 * m1) - y1 * (y2 * m0 + y3 * m1) := by grind
    rw [this, h0, h1]; omega
  · have : (y0 * y3 - y1 * y2) * m1 = y0 * (y2 * m0 + y3 * m1) - y2 * (y0 * m0 + y1 * m1) := by grind
    rw [this, h0, h1]; omega
theorem fdiv_mul {t d : Int} (h : t.fmod d = 0) : t = d * t.fdiv d := by
  have := Int.fmod_def t d
  omega
theorem Fin2.sol (F : Fin2 A B C D d1 d2 y0 y1 y2 y3 z0 z1 z2 z3) (h0 : (y0 * r0 + y1 * r1).fmod d1 = 0) (h1 : (y2 * r0 + y3 * r1).fmod d2 = 0) :
    A * (z0 * (y0 * r0 + y1 * r1).fdiv d1 + z1 * (y2 * r0 + y3 * r1).fdiv d2) + B * (z2 * (y0 * r0 + y1 * r1).fdiv d1 + z3 * (y2 * r0 + y3 * r1).fdiv d2) = r0 ∧
    C * (z0 * (y0 * r0 + y1 * r1).fdiv d1 + z1 * (y2 * r0 + y3 * r1).fdiv d2) + D * (z2 * (y0 * r0 + y1 * r1).fdiv d1 + z3 * (y2 * r0 + y3 * r1).fdiv d2) = r1 := by
  have k0 := fdiv_mul h0
  have k1 := fdiv_mul h1
  obtain ⟨e0, e1, e2, e3, dy, dz⟩ := F.inv
  clear F h0 h1
  generalize (y0 * r0 + y1 * r1).fdiv d1 = w0 at *
  generalize (y2 * r0 + y3 * r1).fdiv d2 = w1 at *
  have m0 : y0 * ((A * (z0 * w0 + z1 * w1) + B * (z2 * w0 + z3 * w1)) - r0) + y1 * ((C * (z0 * w0 + z1 * w1) + D * (z2 * w0 + z3 * w1)) - r1) = 0 := by
    have : y0 * ((A * (z0 * w0 + z1 * w1) + B * (z2 * w0 + z3 * w1)) - r0) + y1 * ((C * (z0 * w0 + z1 * w1) + D * (z2 * w0 + z3 * w1)) - r1) = ((y0 * A + y1 * C) * z0 + (y0 * B + y1 * D) * z2) * w0 + ((y0 * A + y1 * C) * z1 + (y0 * B + y1 * D) * z3) * w1 - (y0 * r0 + y1 * r1) := by grind
    rw [this, ← e0, ← e1, k0]; omega
  have m1 : y2 * ((A * (z0 * w0 + z1 * w1) + B * (z2 * w0 + z3 * w1)) - r0) + y3 * ((C * (z0 * w0 + z1 * w1) + D * (z2 * w0 + z3 * w1)) - r1) = 0 := by
    have : y2 * ((A * (z0 * w0 + z1 * w1) + B * (z2 * w0 + z3 * w1)) - r0) + y3 * ((C * (z0 * w0 + z1 * w1) + D * (z2 * w0 + z3 * w1)) - r1) = ((y2 * A + y3 * C) * z0 + (y2 * B + y3 * D) * z2) * w0 + ((y2 * A + y3 * C) * z1 + (y2 * B + y3 * D) * z3) * w1 - (y2 * r0 + y3 * r1) := by grind
    rw [this, ← e2, ← e3, k1]; omega
  obtain ⟨l0, l1⟩ := lin2 m0 m1
  have a0 := of_unit dy l0
  have a1 := of_unit dy l1
  omega
/-- from a solution to one in the other columns -/
theorem unV (dz : z0 * z3 - z1 * z2 = 1 ∨ z0 * z3 - z1 * z2 = -1) (p q : Int) : ∃ w0 w1, p = z0 * w0 + z1 * w1 ∧ q = z2 * w0 + z3 * w1 := by
  rcases dz with h | h
  · refine ⟨z3 * p - z1 * q, z0 * q - z2 * p, ?_, ?_⟩
    · have : z0 * (z3 * p - z1 * q) + z1 * (z0 * q - z2 * p) = (z0 * z3 - z1 * z2) * p := by grind
      rw [this, h]; omega
    · have : z2 * (z3 * p - z1 * q) + z3 * (z0 * q - z2 * p) = (z0 * z3 - z1 * z2) * q := by grind
      rw [this, h]; omega
  · refine ⟨-(z3 * p - z1 * q), -(z0 * q - z2 * p), ?_, ?_⟩
    · have : z0 * -(z3 * p - z1 * q) + z1 * -(z0 * q - z2 * p) = -((z0 * z3 - z1 * z2) * p) := by grind
      rw [this, h]; omega
    · have : z2 * -(z3 * p - z1 * q) + z3 * -(z0 * q - z2 * p) = -((z0 * z3 - z1 * z2) * q) := by grind
      rw [this, h]; omega
theorem Fin2.noSol (F : Fin2 A B C D d1 d2 y0 y1 y2 y3 z0 z1 z2 z3) (hc : (y0 * r0 + y1 * r1).fmod d1 ≠ 0 ∨ (y2 * r0 + y3 * r1).fmod d2 ≠ 0) (p q : Int) : ¬ (A * p + B * q = r0 ∧ C * p + D * q = r1) := by
  rintro ⟨h0, h1⟩
  obtain ⟨e0, e1, e2, e3, dy, dz⟩ := F.inv
  obtain ⟨w0, w1, hp, hq⟩ := unV dz p q
  have k0 : y0 * r0 + y1 * r1 = d1 * w0 := by
    have : y0 * r0 + y1 * r1 = ((y0 * A + y1 * C) * z0 + (y0 * B + y1 * D) * z2) * w0 + ((y0 * A + y1 * C) * z1 + (y0 * B + y1 * D) * z3) * w1 := by rw [← h0, ← h1, hp, hq]; grind
    rw [this, ← e0, ← e1]; omega
  have k1 : y2 * r0 + y3 * r1 = d2 * w1 := by
    have : y2 * r0 + y3 * r1 = ((y2 * A + y3 * C) * z0 + (y2 * B + y3 * D) * z2) * w0 + ((y2 * A + y3 * C) * z1 + (y2 * B + y3 * D) * z3) * w1 := by rw [← h0, ← h1, hp, hq]; grind
    rw [this, ← e2, ← e3]; omega
  rcases hc with hc | hc
  · exact hc (Int.fmod_eq_zero_of_dvd ⟨w0, k0⟩)
  · exact hc (Int.fmod_eq_zero_of_dvd ⟨w1, k1⟩)
theorem Fin1.sol (F : Fin1 A B d1 y0 z0 z1 z2 z3) (h0 : (y0 * r0).fmod d1 = 0) : A * (z0 * (y0 * r0).fdiv d1 + z1 * 0) + B * (z2 * (y0 * r0).fdiv d1 + z3 * 0) = r0 := by
  have k0 := fdiv_mul h0
  obtain ⟨e0, e1, dy, dz⟩ := F.inv
  clear F h0
  generalize (y0 * r0).fdiv d1 = w0 at *
  have m0 : y0 * ((A * (z0 * w0 + z1 * 0) + B * (z2 * w0 + z3 * 0)) - r0) = 0 := by
    have : y0 * ((A * (z0 * w0 + z1 * 0) + B * (z2 * w0 + z3 * 0)) - r0) = (y0 * (A * z0 + B * z2)) * w0 - y0 * r0 := by grind
    rw [this, ← e0, k0]; omega
  have := of_unit dy m0
  omega
theorem Fin1.ker (F : Fin1 A B d1 y0 z0 z1 z2 z3) : A * z1 + B * z3 = 0 := of_unit F.inv.dy F.inv.e1.symm
theorem Fin1.kern0 (F : Fin1 A B d1 y0 z0 z1 z2 z3) : z1 ≠ 0 ∨ z3 ≠ 0 := by
  by_cases h1 : z1 = 0
  · by_cases h3 : z3 = 0
    · exfalso
      have := F.inv.dz
      rw [h1, h3] at this
      omega
    · exact .inr h3
  · exact .inl h1
theorem Fin1.noSol (F : Fin1 A B d1 y0 z0 z1 z2 z3) (hc : (y0 * r0).fmod d1 ≠ 0) (p q : Int) : A * p + B * q ≠ r0 := by
  intro h0
  obtain ⟨e0, e1, dy, dz⟩ := F.inv
  obtain ⟨w0, w1, hp, hq⟩ := unV dz p q
  refine hc (Int.fmod_eq_zero_of_dvd ⟨w0, ?_⟩)
  have : y0 * r0 = (y0 * (A * z0 + B * z2)) * w0 + (y0 * (A * z1 + B * z3)) * w1 := by rw [← h0, hp, hq]; grind
  rw [this, ← e0, ← e1]; omega
end
/-- one row as the law builds it -/
structure Bt1 (f t1 t3 A B : Int) : Prop where
  fp : 0 < f ∧ f ≤ 3
  ht : t1.natAbs ≤ 3 ∧ t3.natAbs ≤ 3
  eA : A = f + t3 * (0 + t1 * f)
  eB : B = 0 + t1 * f
noncomputable def P1 (A B r0 n : Int) : Int → Int → Bool := fun x y => (A * x + B * y - r0).fmod n == 0
noncomputable def Q1 (f c n : Int) : Int → Int → Bool := fun u _ => (f * u - c).fmod n == 0
section
variable {f g t1 t3 A B d1 y0 z0 z1 z2 z3 p q r0 c : Int} {n : Nat}
theorem f_na {f : Int} (h : 0 < f ∧ f ≤ 3) : f.natAbs ≤ 3 := by omega
theorem Bt1.bounds (h : Bt1 f t1 t3 A B) : A.natAbs ≤ 30 ∧ B.natAbs ≤ 9 := by
  have hF := f_na h.fp
  have hB : B.natAbs ≤ 9 := h.eB ▸ z0n (bd3 h.ht.1 hF)
  exact ⟨h.eA ▸ ad hF (bd3 h.ht.2 (h.eB ▸ hB)), hB⟩
theorem Bt1.hy (h : Bt1 f t1 t3 A B) : ((A ≠ 0 ∧ A.natAbs ≤ 512) ∨ (B ≠ 0 ∧ B.natAbs ≤ 512)) ∧ (A.natAbs ≤ 1024 ∧ B.natAbs ≤ 1024) ∧ Sm A ∧ Sm B := by
  obtain ⟨hA, hB⟩ := h.bounds
  refine ⟨?_, ⟨Nat.le_trans hA (by decide), Nat.le_trans hB (by decide)⟩, Sm_of (Nat.le_trans hA (by decide)), Sm_of (Nat.le_trans hB (by decide))⟩
  by_cases b0 : B = 0
  · have e : A = f := by rw [h.eA, ← h.eB, b0, Int.mul_zero, Int.add_zero]
    exact .inl ⟨by rw [e]; exact Int.ne_of_gt h.fp.1, Nat.le_trans hA (by decide)⟩
  · exact .inr ⟨b0, Nat.le_trans hB (by decide)⟩
theorem Bt1.row (h : Bt1 f t1 t3 A B) (x y : Int) : A * x + B * y = f * (x + t1 * (y + t3 * x)) := by
  rw [h.eA, h.eB]; grind
theorem Bt1.eqs (h : Bt1 f t1 t3 A B) (F : Fin1 A B d1 y0 z0 z1 z2 z3) : d1 = f := by
  have p1 := F.p1
  have pf := h.fp
  obtain ⟨e0, e1, dy, dz⟩ := F.inv
  have h1 : f ∣ d1 := ⟨y0 * (z0 + t1 * (z2 + t3 * z0)), by rw [e0, h.row]; grind⟩
  have kA : A * (y0 * (z0 * z3 - z1 * z2)) = z3 * d1 - z2 * 0 := by rw [e0, e1]; grind
  have kB : B * (y0 * (z0 * z3 - z1 * z2)) = z0 * 0 - z1 * d1 := by rw [e0, e1]; grind
  have key : ∀ X M : Int, X * (y0 * (z0 * z3 - z1 * z2)) = d1 * M → d1 ∣ X := fun X M hX => unit_dvd dy dz hX
  have gA : d1 ∣ A := key A z3 (by rw [kA]; grind)
  have gB : d1 ∣ B := key B (-z1) (by rw [kB]; grind)
  have h2 : d1 ∣ f := by
    have : f = A - t3 * B := by rw [h.eA, h.eB]; grind
    rw [this]
    exact Int.dvd_sub gA (Int.dvd_mul_of_dvd_right gB)
  exact Int.dvd_antisymm (Int.le_of_lt p1) (Int.le_of_lt pf.1) h2 h1
theorem Bt1.rb (h : Bt1 f t1 t3 A B) (hp : p.natAbs ≤ 4 ∧ q.natAbs ≤ 4) : (A * p + B * q).natAbs ≤ 10000 := by
  obtain ⟨hA, hB⟩ := h.bounds
  have a1 : (A * p).natAbs ≤ 30 * 4 := by rw [Int.natAbs_mul]; exact Nat.mul_le_mul hA hp.1
  have a2 : (B * q).natAbs ≤ 9 * 4 := by rw [Int.natAbs_mul]; exact Nat.mul_le_mul hB hp.2
  exact Nat.le_trans (ad a1 a2) (by decide)
theorem Q1_perx (v : Int) : per n (fun u => Q1 f c n u v) := fun u => by
  rw [Bool.eq_iff_iff]
  unfold Q1
  rw [one_dvd', one_dvd', dvd_add_mul (b := f * (u + n) - c) (a := f * u - c) (k := f) (by rw [Int.mul_add, Int.mul_comm (n : Int) f]; omega)]
theorem Q1_pery (t u : Int) : per n (fun v => Q1 f c n (u + t * v) v) := fun v => by
  rw [Bool.eq_iff_iff]
  show Q1 f c n (u + t * (v + n)) (v + n) = true ↔ Q1 f c n (u + t * v) v = true
  unfold Q1
  rw [one_dvd', one_dvd', dvd_add_mul (b := f * (u + t * (v + n)) - c) (a := f * (u + t * v) - c) (k := f * t) (by grind)]
theorem Bt1.cnt (h : Bt1 f t1 t3 A B) (n : Nat) : cO (P1 A B r0 n) n 0 n = cO (Q1 f r0 n) n 0 n := by
  have h0 : ∀ x y, P1 A B r0 n x y = Q1 f r0 n (x + t1 * (y + t3 * x)) (y + t3 * x) := fun x y => by unfold P1 Q1; rw [h.row]
  rw [cO_all h0 n n 0]
  have h1 := cO_y (n := n) (R := fun x y => Q1 f r0 n (x + t1 * y) y) (fun x => Q1_pery t1 x) (fun x => t3 * x) n 0
  rw [h1]
  exact cO_x (R := Q1 f r0 n) (fun y => Q1_perx y) (fun y => t1 * y)
theorem Bt1.base (h : Bt1 f t1 t3 A B) (hs : A * p + B * q = r0) (n : Nat) : cO (P1 A B r0 n) n 0 n = cO (Q1 f 0 n) n 0 n := by
  rw [h.cnt n]
  rw [h.row] at hs
  have h1 : ∀ x y, Q1 f r0 n x y = Q1 f 0 n (x + -(p + t1 * (q + t3 * p))) y := fun x y => by
    unfold Q1
    have e : f * x - r0 = f * (x + -(p + t1 * (q + t3 * p))) - 0 := by rw [← hs]; grind
    rw [e]
  rw [cO_all h1 n n 0]
  exact cO_x (R := Q1 f 0 n) (fun y => Q1_perx y) (fun _ => -(p + t1 * (q + t3 * p)))
theorem Bt1.none (h : Bt1 f t1 t3 A B) (hn : ∀ p q, A * p + B * q ≠ r0) : 0 + cO (P1 A B r0 f) f.toNat 0 f.toNat = 0 := by
  rw [Int.zero_add]
  refine cO_none (fun x y => ?_) _ _
  rw [Bool.eq_false_iff]
  intro ht
  unfold P1 at ht
  have h1 := one_dvd'.mp ht
  rw [h.row] at h1
  have h3 : f ∣ r0 := by
    have := Int.dvd_sub (Int.dvd_mul_right f (x + t1 * (y + t3 * x))) h1
    rwa [Int.sub_sub_self] at this
  obtain ⟨a, ha⟩ := h3
  have ev : a + t1 * (-(t3 * a) + t3 * a) = a := by grind
  have hr := h.row a (-(t3 * a))
  rw [ev, ← ha] at hr
  exact hn _ _ hr
theorem fin_full1 : ∀ f ∈ [(1 : Int), 2, 3], cO (Q1 f 0 f) f.toNat 0 f.toNat = f * f := by decide
theorem fin_some1 : ∀ f ∈ [(1 : Int), 2, 3], ∀ n ∈ [1, 2, 3], cO (Q1 f 0 (n : Nat)) n 0 n ≠ 0 := by decide
theorem Bt1.fm (h : Bt1 f t1 t3 A B) : f ∈ [(1 : Int), 2, 3] := by
  have := h.fp
  have : f = 1 ∨ f = 2 ∨ f = 3 := by omega
  rcases this with rfl | rfl | rfl <;> decide
theorem Bt1.full (h : Bt1 f t1 t3 A B) (hs : A * p + B * q = r0) : 0 + cO (P1 A B r0 f) f.toNat 0 f.toNat = f * f := by
  have hb := h.base hs f.toNat
  have hf := h.fp
  have e : (f.toNat : Int) = f := by omega
  rw [e] at hb
  rw [Int.zero_add, hb]
  exact fin_full1 f h.fm
theorem Bt1.some (h : Bt1 f t1 t3 A B) (hs : A * p + B * q = r0) {n : Nat} (h1 : 1 ≤ n) (h2 : (n : Int) ≤ f) : 0 + cO (P1 A B r0 n) n 0 n ≠ 0 := by
  rw [Int.zero_add, h.base hs n]
  have hf := h.fp
  have hn : n ∈ [1, 2, 3] := by
    have : n = 1 ∨ n = 2 ∨ n = 3 := by omega
    rcases this with rfl | rfl | rfl <;> decide
  exact fin_some1 f h.fm n hn
theorem genB1 {Q : Int → Int → Prop} {a b : Int} (h : Bt1 f t1 t3 a b) (k : ∀ A B, Bt1 f t1 t3 A B → Q A B) : Q a b := k _ _ h
end
noncomputable section
/-- what a call of the program's own function asks and leads to -/
abbrev Spec := List AV → AS → (AV → AS → Prop) → Prop
/-- what the executor of statements knows of an environment -/
structure VC where
  kinds : List (Str × NameKind)
  cells : List (Str × Nat)
  ns : Option Nat
  /-- the builtins and the program's own functions that the text may name -/
  gb : List (Str × GB)
  fn : List (Str × Spec)
/-- what stands in the world of the names -/
structure VW (X : Cx) (gb : List (Str × GB)) (fn : List (Str × Spec)) : Prop where
  K : (hd.heap_39 X.w.params).In X.h₀
  T : ∃ lo me mg mb, Top hd.view_39 lo me mg mb X.h₀
  built : ∀ x g, gb.lookup x = some g → nsIn (hd.heap_39 X.w.params) mainGlobals x = some none ∧ bootBuiltins x = some g.val ∧ x ≠ "__name__" ∧ (x == ("__debug__" : Str)) = false
  user : ∀ x sp, fn.lookup x = some sp → ∃ fa, nsIn (hd.heap_39 X.w.params) mainGlobals x = some (some (.ref fa)) ∧ keepIn (hd.heap_39 X.w.params) (.ref fa) = true ∧ (x == ("__debug__" : Str)) = false ∧ ∀ vs S K, sp vs S K → TrLs X VR (callF (.ref fa)) vs S K
theorem TrLs.at {X : Cx} {f : List Value → Sem Value} {vs : List AV} {S : AS} {K : AV → AS → Prop} {θ : List Addr} (p : X.θ₀ <+: θ) (h : TrLs X VR f vs S K) : TrLs (X.at θ) VR f vs S K := fun θ' s E Q cs R p' v k => h θ' s E Q cs R (p.trans p') v k
theorem VW.at {X : Cx} {gb : List (Str × GB)} {fn : List (Str × Spec)} {θ : List Addr} (p : X.θ₀ <+: θ) (h : VW X gb fn) : VW (X.at θ) gb fn where
  K := h.K
  T := h.T
  built := h.built
  user := fun x sp e => by
    obtain ⟨fa, h1, h2, h3, h4⟩ := h.user x sp e
    exact ⟨fa, h1, h2, h3, fun vs S K hs => (h4 vs S K hs).at p⟩
/-- the executor's context and the environment agree -/
structure VEnv (X : Cx) (V : VC) (env : Env) : Prop where
  kind : env.scope.kind = .function
  glo : env.globals = mainGlobals
  bui : env.builtins = builtinsNs
  nam : env.scope.names = V.kinds
  cel : A2 (fun (p : Str × Nat) (q : Str × Addr) => p.1 = q.1 ∧ X.θ₀[p.2]? = some q.2) V.cells env.cells
  loc : (V.ns = none ∧ (V.kinds.all fun p => p.2 != .free) = true ∧ ∃ cn cs a ccd, env = envX cn cs X.L a ccd env.cells) ∨ (∃ k scope C env0, V.ns = some k ∧ env = compEnvC scope env.cells C env0 ∧ X.θ₀[k]? = some C)
  w : VW X V.gb V.fn
section
variable {X : Cx} {V : VC} {env : Env}
theorem VEnv.glbU (h : VEnv X V env) {x : Str} {sp : Spec} (hx : V.kinds.lookup x = some .globalImplicit) (e : V.fn.lookup x = some sp) : ∃ fa, Glb X env x (.ref fa) ∧ keepIn (hd.heap_39 X.w.params) (.ref fa) = true ∧ ∀ vs S K, sp vs S K → TrLs X VR (callF (.ref fa)) vs S K := by
  obtain ⟨fa, h1, h2, h3, h4⟩ := h.w.user x sp e
  obtain ⟨lo, me, mg, mb, T⟩ := h.w.T
  refine ⟨fa, fun s m E Q pos F hq => ?_, h2, h4⟩
  exact Name_function_global h.kind (by unfold Env.kindOf; rw [h.nam]; exact hx) (loadGlobal_global (env := env) (show s.heap.Ns env.globals mg from h.glo ▸ (T.keeps F.keep).g) (mg_of h.w.K T.g h1) hq) h3
theorem VEnv.glbB (h : VEnv X V env) {x : Str} {g : GB} (hx : V.kinds.lookup x = some .globalImplicit) (e : V.gb.lookup x = some g) : Glb X env x g.val := by
  obtain ⟨h1, h2, h3, h4⟩ := h.w.built x g e
  obtain ⟨lo, me, mg, mb, T⟩ := h.w.T
  intro s m E Q pos F hq
  exact Name_function_global h.kind (by unfold Env.kindOf; rw [h.nam]; exact hx) (loadGlobal_builtin (env := env) (show s.heap.Ns env.globals mg from h.glo ▸ (T.keeps F.keep).g) (mg_none_of h.w.K T.g h1) (show s.heap.Ns env.builtins mb from h.bui ▸ (T.keeps F.keep).b) ((T.builtins x h3).trans h2) hq) h4
/-- the names of builtins that the text's own block sees -/
noncomputable def VC.gl (V : VC) : List (Str × GB) := V.gb.filter fun p => V.kinds.lookup p.1 == some .globalImplicit
noncomputable def VC.ec (V : VC) : EC := ⟨V.kinds, V.cells, V.ns, V.gl⟩
abbrev CA (θ : List Addr) (p : Str × Nat) (q : Str × Addr) : Prop := p.1 = q.1 ∧ θ[p.2]? = some q.2
theorem A2.cok {θ : List Addr} {cells : List (Str × Nat)} {cl : List (Str × Addr)} (h : A2 (CA θ) cells cl) : COk θ cl cells := by
  induction h with
  | nil => exact fun _ _ h => by cases h
  | @cons a b _ _ h _ ih =>
    obtain ⟨x, j⟩ := a
    obtain ⟨y, c⟩ := b
    obtain ⟨h1, h2⟩ := h
    cases h1
    exact COk.push h2 ih
theorem lookup_filter {β : Type} {q : Str → Bool} : ∀ {l : List (Str × β)} {x : Str} {g : β}, (l.filter fun p => q p.1).lookup x = some g → q x = true ∧ l.lookup x = some g
  | [], _, _, h => by cases h
  | (y, b) :: r, x, g, h => by
    rw [List.filter_cons] at h
    split at h
    · rename_i hq
      simp only [List.lookup_cons] at h ⊢
      by_cases hy : x = y
      · subst hy; rw [beq_self_eq_true] at h ⊢; exact ⟨hq, h⟩
      · rw [beq_false_of_ne hy] at h ⊢; exact lookup_filter h
    · rename_i hq
      obtain ⟨h1, h2⟩ := lookup_filter h
      refine ⟨h1, ?_⟩
      simp only [List.lookup_cons]
      by_cases hy : x = y
      · subst hy; exact absurd h1 hq
      · rw [beq_false_of_ne hy]; exact h2
theorem VEnv.gok (h : VEnv X V env) : GOk X env V.gl := fun x g e => by
  obtain ⟨h1, h2⟩ := lookup_filter (q := fun n => V.kinds.lookup n == some .globalImplicit) e
  exact h.glbB (by simpa using h1) h2
theorem VEnv.ec (h : VEnv X V env) : EOk X V.ec env := by
  have hc : COk X.θ₀ env.cells V.cells := A2.cok h.cel
  have hg := h.gok
  have hk := h.kind
  have hn := h.nam
  rcases h.loc with ⟨h1, h2, cn, cs, a, ccd, he⟩ | ⟨k, scope, C, env0, h1, he, h3⟩
  · unfold VC.ec
    rw [h1, ← hn]
    rw [← hn] at h2
    generalize env.cells = cl at *
    subst he
    exact EOk.fn hk h2 hc hg
  · unfold VC.ec
    rw [h1, ← hn]
    generalize env.cells = cl at *
    subst he
    exact EOk.comp hk h3 hc hg
-- what a comprehension captures
noncomputable def cloA {α : Type} (cells : List (Str × α)) : List (Str × NameKind) → List (Str × α) → Option (List (Str × α))
  | [], acc => some acc
  | (n, k) :: r, acc => if (k == .free) = true then match cells.lookup n with
    | some a => cloA cells r ((n, a) :: acc)
    | none => none
    else cloA cells r acc
theorem clo_al {θ : List Addr} {cells : List (Str × Nat)} {cl : List (Str × Addr)} (h : A2 (CA θ) cells cl) : ∀ (names : List (Str × NameKind)) {acc c : List (Str × Nat)} {acc' : List (Str × Addr)}, cloA cells names acc = some c → A2 (CA θ) acc acc' → ∃ c', cloA cl names acc' = some c' ∧ A2 (CA θ) c c'
  | [], _, _, _, e, ha => by cases e; exact ⟨_, rfl, ha⟩
  | (n, k) :: r, acc, c, acc', e, ha => by
    unfold cloA at e ⊢
    split at e
    · rename_i hk
      rw [if_pos hk]
      cases hl : cells.lookup n with
      | none => rw [hl] at e; cases e
      | some j =>
        rw [hl] at e
        obtain ⟨a, h1, h2⟩ := A2.cok h n j hl
        rw [h1]
        exact clo_al h r e (.cons ⟨rfl, h2⟩ ha)
    · rename_i hk
      rw [if_neg hk]
      exact clo_al h r e ha
theorem clo_ok {scope : Scope} {env : Env} {cl : List (Str × Addr)} (h : cloA env.cells scope.names [] = some cl) : closureFor scope env = pure cl := by
  have key : ∀ (names : List (Str × NameKind)) (acc cl : List (Str × Addr)), cloA env.cells names acc = some cl →
      (forIn names acc fun (x : Str × NameKind) (cs : List (Str × Addr)) => (if (x.2 == NameKind.free) = true then do let a ← cellOf env x.1; pure (ForInStep.yield ((x.1, a) :: cs)) else pure (ForInStep.yield cs) : Sem (ForInStep (List (Str × Addr))))) = pure cl := by
    intro names
    induction names with
    | nil => intro acc cl e; cases e; rfl
    | cons p r ih =>
      obtain ⟨n, k⟩ := p
      intro acc cl e
      unfold cloA at e
      rw [List.forIn_cons]
      split at e
      · rename_i hk
        cases hl : env.cells.lookup n with
        | none => rw [hl] at e; cases e
        | some a =>
          rw [hl] at e
          have hc : cellOf env n = pure a := by unfold cellOf; rw [hl]
          simp only [hk, if_true, hc]
          exact ih _ _ e
      · rename_i hk
        simp only [hk, if_false]
        exact ih _ _ e
  have h2 := key scope.names [] cl h
  unfold closureFor
  refine Eq.trans (b := ((forIn scope.names ([] : List (Str × Addr)) fun (x : Str × NameKind) (cs : List (Str × Addr)) => (if (x.2 == NameKind.free) = true then do let a ← cellOf env x.1; pure (ForInStep.yield ((x.1, a) :: cs)) else pure (ForInStep.yield cs) : Sem (ForInStep (List (Str × Addr))))) >>= fun r => pure r)) ?_ ?_
  · rfl
  · rw [h2]; rfl
end
end
noncomputable section
section
variable {X : Cx} {V : VC} {env : Env} {S : AS}
noncomputable def vStore (V : VC) (x : Str) (v : AV) (S : AS) (K : AS → Prop) : Prop :=
  match V.kinds.lookup x with
  | some .local => match V.ns with
    | none => K (S.set x v)
    | some k => match S.hp[k]? with
      | some (.ns l) => K (S.put k (.ns ((x, v) :: l)))
      | _ => False
  | some .cell => match V.ns, V.cells.lookup x with
    | _, none => False
    | none, some j => match S.hp[j]? with
      | some (.cell _) => K (S.put j (.cell (some v)))
      | some .acell => K (S.put j (.cell (some v)))
      | _ => False
    | some _, some j => match S.hp[j]? with
      | some (.cell _) => K (S.put j (.cell (some v)))
      | _ => False
  | _ => False
theorem vStore_ok {x : Str} {v : AV} {K : AS → Prop} (h : VEnv X V env) (hs : vStore V x v S K) : Tr1 X (fun _ _ _ => True) (storeName env x) v S (fun (_ : Unit) S' => K S') := by
  have hk := h.kind
  have hn : env.kindOf x = V.kinds.lookup x := by unfold Env.kindOf; rw [h.nam]
  have hc := A2.cok h.cel
  unfold vStore at hs
  cases hl : V.kinds.lookup x with
  | none => rw [hl] at hs; exact hs.elim
  | some kd =>
    rw [hl] at hs hn
    rcases h.loc with ⟨h1, h2, cn, cs, a, ccd, he⟩ | ⟨k, scope, C, env0, h1, he, h3⟩
    · rw [h1] at hs
      generalize env.cells = cl at he hc
      subst he
      cases kd with
      | «local» => exact T_store hs hk hn
      | cell =>
        simp only at hs
        cases hj : V.cells.lookup x with
        | none => rw [hj] at hs; exact hs.elim
        | some j =>
          rw [hj] at hs
          simp only at hs
          obtain ⟨c, hc1, hc2⟩ := hc x j hj
          split at hs
          · rename_i e; exact T_storeC hc1 hc2 e hs hk hn
          · rename_i e; exact T_storeCA hc1 hc2 e hs hk hn
          · exact hs.elim
      | _ => exact hs.elim
    · rw [h1] at hs
      generalize env.cells = cl at he hc
      subst he
      cases kd with
      | «local» =>
        simp only at hs
        split at hs
        · rename_i l e
          refine T_storeP h3 e hs hn ?_
          have : (compEnvC scope cl C env0).scope.kind = .function := hk
          rw [this]; rfl
        · exact hs.elim
      | cell =>
        simp only at hs
        cases hj : V.cells.lookup x with
        | none => rw [hj] at hs; exact hs.elim
        | some j =>
          rw [hj] at hs
          simp only at hs
          obtain ⟨c, hc1, hc2⟩ := hc x j hj
          split at hs
          · rename_i e; exact T_storePC hc1 hc2 e hs hn hk
          · exact hs.elim
      | _ => exact hs.elim
/-- the kinds that a comprehension's block gives its names -/
noncomputable def relK (kinds names : List (Str × NameKind)) : List (Str × NameKind) := names.map fun (n, k) => if (k == .free && (kinds.lookup n == some .cell)) = true then (n, .cell) else (n, k)
theorem A2.ca_mono {θ θ' : List Addr} {cells : List (Str × Nat)} {cl : List (Str × Addr)} (p : θ <+: θ') (h : A2 (CA θ) cells cl) : A2 (CA θ') cells cl := h.mono fun _ _ q => ⟨q.1, pre_get p q.2⟩
theorem VEnv.rel (h : VEnv X V env) (scope : Scope) : (relabel scope env).names = relK V.kinds scope.names := by
  unfold relabel relK
  refine List.map_congr_left fun p _ => ?_
  obtain ⟨n, k⟩ := p
  have e1 : (env.scope.kind == ScopeKind.function) = true := by rw [h.kind]; rfl
  have e2 : env.kindOf n = V.kinds.lookup n := by unfold Env.kindOf; rw [h.nam]
  simp only [e1, e2, Bool.and_true]
theorem VEnv.comp (h : VEnv X V env) {scope : Scope} (hk : scope.kind = .function) {cl : List (Str × Nat)} {cl' : List (Str × Addr)} (ha : A2 (CA X.θ₀) cl cl') {θ₁ : List Addr} {C : Addr} {j : Nat} (p : X.θ₀ <+: θ₁) (hC : θ₁[j]? = some C) :
    VEnv (X.at θ₁) ⟨relK V.kinds scope.names, cl, some j, V.gb, V.fn⟩ (compEnvC scope cl' C env) where
  kind := hk
  glo := h.glo
  bui := h.bui
  nam := h.rel scope
  cel := ha.ca_mono p
  loc := .inr ⟨j, scope, C, env, rfl, rfl, hC⟩
  w := h.w.at p
theorem VEnv.compC (h : VEnv X V env) {scope : Scope} (hk : scope.kind = .function) {cl : List (Str × Nat)} {cl' : List (Str × Addr)} (ha : A2 (CA X.θ₀) cl cl') {θ₁ : List Addr} {C c : Addr} {j i : Nat} {x : Str} (p : X.θ₀ <+: θ₁) (hC : θ₁[j]? = some C) (hc : θ₁[i]? = some c) :
    VEnv (X.at θ₁) ⟨relK V.kinds scope.names, (x, i) :: cl, some j, V.gb, V.fn⟩ (compEnvC scope ((x, c) :: cl') C env) where
  kind := hk
  glo := h.glo
  bui := h.bui
  nam := h.rel scope
  cel := .cons ⟨rfl, hc⟩ (ha.ca_mono p)
  loc := .inr ⟨j, scope, C, env, rfl, rfl, hC⟩
  w := h.w.at p
end
end
noncomputable section
section
variable {α : Type}
noncomputable def vRef (a : AV) (P : Nat → Prop) : Prop := match a with
  | .ref k => P k
  | _ => False
theorem vRef_ok {a : AV} {P : Nat → Prop} (h : vRef a P) : ∃ k, a = .ref k ∧ P k := by
  cases a with
  | ref k => exact ⟨k, rfl, h⟩
  | _ => exact h.elim
noncomputable def vInt (a : AV) (P : Int → Prop) : Prop := match a with
  | .int k => P k
  | _ => False
theorem vInt_ok {a : AV} {P : Int → Prop} (h : vInt a P) : ∃ k, a = .int k ∧ P k := by
  cases a with
  | int k => exact ⟨k, rfl, h⟩
  | _ => exact h.elim
/-- a branch -/
noncomputable def vBr (b : Bool) (P Q : Prop) : Prop := match b with
  | true => P
  | false => Q
theorem vBr_ok {b : Bool} {P Q : Prop} (h : vBr b P Q) : (b = true → P) ∧ (b = false → Q) := by
  cases b with
  | true => exact ⟨fun _ => h, fun e => by cases e⟩
  | false => exact ⟨(fun e => by cases e), fun _ => h⟩
theorem vBr_i {b : Bool} {P Q : Prop} (h1 : b = true → P) (h2 : b = false → Q) : vBr b P Q := by
  cases b with
  | true => exact h1 rfl
  | false => exact h2 rfl
noncomputable def vOpt (o : Option α) (P : α → Prop) : Prop := match o with
  | some a => P a
  | none => False
theorem vOpt_ok {o : Option α} {P : α → Prop} (h : vOpt o P) : ∃ a, o = some a ∧ P a := by
  cases o with
  | some a => exact ⟨a, rfl, h⟩
  | none => exact h.elim
noncomputable def vIf (b : Bool) (P : Prop) : Prop := match b with
  | true => P
  | false => False
theorem vIf_ok {b : Bool} {P : Prop} (h : vIf b P) : b = true ∧ P := by
  cases b with
  | true => exact ⟨rfl, h⟩
  | false => exact h.elim
noncomputable def vDec (p : Prop) [Decidable p] (P : Prop) : Prop := vIf (decide p) P
theorem vDec_ok {p : Prop} [Decidable p] {P : Prop} (h : vDec p P) : p ∧ P := ⟨of_decide_eq_true (vIf_ok h).1, (vIf_ok h).2⟩
noncomputable def lstO (ao : AO) : Option (List AV) := match ao with
  | .lst vs => some vs
  | _ => none
noncomputable def tupO (ao : AO) : Option (List AV) := match ao with
  | .tup vs => some vs
  | _ => none
noncomputable def nsO (ao : AO) : Option (List (Str × AV)) := match ao with
  | .ns l => some l
  | _ => none
theorem lstO_ok {ao : AO} {vs : List AV} (h : lstO ao = some vs) : ao = .lst vs := by
  cases ao with
  | lst ws => cases h; rfl
  | _ => first | exact ff_tt h | exact nn_ss h | cases h
theorem tupO_ok {ao : AO} {vs : List AV} (h : tupO ao = some vs) : ao = .tup vs := by
  cases ao with
  | tup ws => cases h; rfl
  | _ => first | exact ff_tt h | exact nn_ss h | cases h
theorem nsO_ok {ao : AO} {vs : List (Str × AV)} (h : nsO ao = some vs) : ao = .ns vs := by
  cases ao with
  | ns ws => cases h; rfl
  | _ => first | exact ff_tt h | exact nn_ss h | cases h
noncomputable def vLst (o : Option AO) (P : List AV → Prop) : Prop := vOpt o fun ao => vOpt (lstO ao) P
noncomputable def vTupl (o : Option AO) (P : List AV → Prop) : Prop := vOpt o fun ao => vOpt (tupO ao) P
noncomputable def vNs (o : Option AO) (P : List (Str × AV) → Prop) : Prop := vOpt o fun ao => vOpt (nsO ao) P
theorem vLst_ok {o : Option AO} {P : List AV → Prop} (h : vLst o P) : ∃ vs, o = some (.lst vs) ∧ P vs := by
  replace h := vOpt_ok h; obtain ⟨ao, rfl, h⟩ := h
  replace h := vOpt_ok h; obtain ⟨vs, e, h⟩ := h
  exact ⟨vs, by rw [lstO_ok e], h⟩
theorem vTupl_ok {o : Option AO} {P : List AV → Prop} (h : vTupl o P) : ∃ vs, o = some (.tup vs) ∧ P vs := by
  replace h := vOpt_ok h; obtain ⟨ao, rfl, h⟩ := h
  replace h := vOpt_ok h; obtain ⟨vs, e, h⟩ := h
  exact ⟨vs, by rw [tupO_ok e], h⟩
theorem vNs_ok {o : Option AO} {P : List (Str × AV) → Prop} (h : vNs o P) : ∃ vs, o = some (.ns vs) ∧ P vs := by
  replace h := vOpt_ok h; obtain ⟨ao, rfl, h⟩ := h
  replace h := vOpt_ok h; obtain ⟨vs, e, h⟩ := h
  exact ⟨vs, by rw [nsO_ok e], h⟩
end
-- states made explicit, where the kernel reckons
noncomputable def fcN (k : Nat) (P : Nat → Prop) : Prop := match k with
  | 0 => P 0
  | n + 1 => P (n + 1)
theorem fcN_ok {k : Nat} {P : Nat → Prop} (h : fcN k P) : P k := by cases k <;> exact h
noncomputable def fcV (v : AV) (P : AV → Prop) : Prop := match v with
  | .ref k => fcN k fun k => P (.ref k)
  | .int x => P (.int x)
  | .bool b => P (.bool b)
  | .nil => P .nil
  | .fn v => P (.fn v)
theorem fcV_ok {v : AV} {P : AV → Prop} (h : fcV v P) : P v := by
  cases v with
  | ref k => exact fcN_ok (P := fun k => P (.ref k)) h
  | _ => exact h
noncomputable def fcVs : List AV → (List AV → Prop) → Prop
  | [], P => P []
  | v :: r, P => fcV v fun v => fcVs r fun r => P (v :: r)
theorem fcVs_ok : ∀ {l : List AV} {P : List AV → Prop}, fcVs l P → P l
  | [], _, h => h
  | _ :: r, P, h => fcVs_ok (l := r) (P := fun r => P (_ :: r)) (fcV_ok (P := fun v => fcVs r fun r => P (v :: r)) h)
noncomputable def fcL : List (Str × AV) → (List (Str × AV) → Prop) → Prop
  | [], P => P []
  | (x, v) :: r, P => fcV v fun v => fcL r fun r => P ((x, v) :: r)
theorem fcL_ok : ∀ {l : List (Str × AV)} {P : List (Str × AV) → Prop}, fcL l P → P l
  | [], _, h => h
  | (x, v) :: r, P, h => fcL_ok (l := r) (P := fun r => P ((x, v) :: r)) (fcV_ok (P := fun v => fcL r fun r => P ((x, v) :: r)) h)
noncomputable def fcO (o : AO) (P : AO → Prop) : Prop := match o with
  | .lst vs => fcVs vs fun vs => P (.lst vs)
  | .tup vs => fcVs vs fun vs => P (.tup vs)
  | .cell v => match v with
    | some v => fcV v fun v => P (.cell (some v))
    | none => P (.cell none)
  | .ri x n => P (.ri x n)
  | .gone => P .gone
  | .acell => P .acell
  | .il ns => P (.il ns)
  | .ns l => fcL l fun l => P (.ns l)
  | .li k i => fcN k fun k => fcN i fun i => P (.li k i)
  | .ti k i => fcN k fun k => fcN i fun i => P (.ti k i)
  | .en k i => fcN k fun k => fcN i fun i => P (.en k i)
theorem fcO_ok {o : AO} {P : AO → Prop} (h : fcO o P) : P o := by
  cases o with
  | lst vs => exact fcVs_ok (P := fun vs => P (.lst vs)) h
  | tup vs => exact fcVs_ok (P := fun vs => P (.tup vs)) h
  | cell v => cases v with
    | none => exact h
    | some v => exact fcV_ok (P := fun v => P (.cell (some v))) h
  | ns l => exact fcL_ok (P := fun l => P (.ns l)) h
  | li k i => exact fcN_ok (P := fun i => P (.li k i)) (fcN_ok (P := fun k => fcN i fun i => P (.li k i)) h)
  | ti k i => exact fcN_ok (P := fun i => P (.ti k i)) (fcN_ok (P := fun k => fcN i fun i => P (.ti k i)) h)
  | en k i => exact fcN_ok (P := fun i => P (.en k i)) (fcN_ok (P := fun k => fcN i fun i => P (.en k i)) h)
  | _ => exact h
noncomputable def fcH : List AO → (List AO → Prop) → Prop
  | [], P => P []
  | o :: r, P => fcO o fun o => fcH r fun r => P (o :: r)
theorem fcH_ok : ∀ {l : List AO} {P : List AO → Prop}, fcH l P → P l
  | [], _, h => h
  | _ :: r, P, h => fcH_ok (l := r) (P := fun r => P (_ :: r)) (fcO_ok (P := fun o => fcH r fun r => P (o :: r)) h)
noncomputable def fcS (S : AS) (P : AS → Prop) : Prop := fcH S.hp fun hp => fcL S.loc fun l => P ⟨l, hp⟩
theorem fcS_ok {S : AS} {P : AS → Prop} (h : fcS S P) : P S := fcL_ok (P := fun l => P ⟨l, S.hp⟩) (fcH_ok (P := fun hp => fcL S.loc fun l => P ⟨l, hp⟩) h)
noncomputable def fcNs : List Nat → (List Nat → Prop) → Prop
  | [], P => P []
  | k :: r, P => fcN k fun k => fcNs r fun r => P (k :: r)
theorem fcNs_ok : ∀ {l : List Nat} {P : List Nat → Prop}, fcNs l P → P l
  | [], _, h => h
  | _ :: r, P, h => fcNs_ok (l := r) (P := fun r => P (_ :: r)) (fcN_ok (P := fun k => fcNs r fun r => P (k :: r)) h)
/-- the executor's parts, of less fuel -/
structure Orc where
  E : VC → Expr → AS → (AV → AS → Prop) → Prop
  B : VC → Expr → AS → (Bool → AS → Prop) → Prop
  C : VC → Expr → Expr → List Expr → Nat → Nat → AS → (AS → Prop) → Prop
  S : VC → List Stmt → AS → (AF → AS → Prop) → Prop
  F : VC → Expr → Nat → List Stmt → AS → (AF → AS → Prop) → Prop
structure OOk (o : Orc) : Prop where
  E : ∀ {X : Cx} {V : VC} {env env' : Env} {r : Nat} {e : Expr} {S : AS} {K : AV → AS → Prop}, VEnv X V env → Fram X env' (r + 1) → o.E V e S K → Tr X (eval e env) S K
  B : ∀ {X : Cx} {V : VC} {env env' : Env} {r : Nat} {e : Expr} {S : AS} {K : Bool → AS → Prop}, VEnv X V env → Fram X env' (r + 1) → o.B V e S K → TrB X (PySem.isTrue e env (eval e env)) S K
  C : ∀ {X : Cx} {V : VC} {env env' : Env} {r : Nat} {elt target iter : Expr} {ifs : List Expr} {scope : Scope} {pos : Pos} {kI kD : Nat} {S : AS} {K : AS → Prop}, VEnv X V env → Fram X env' (r + 1) → o.C V elt target ifs kI kD S K → TrCp X (.ListComp elt [⟨target, iter, ifs, 0⟩] scope pos) kI kD env S K
  S : ∀ {X : Cx} {V : VC} {env env' : Env} {r : Nat} {b : List Stmt} {S : AS} {K : AF → AS → Prop}, VEnv X V env → Fram X env' (r + 1) → o.S V b S K → TrF X (execs b env) S K
  F : ∀ {X : Cx} {V : VC} {env env' : Env} {r : Nat} {target : Expr} {kI : Nat} {b : List Stmt} {S : AS} {K : AF → AS → Prop}, VEnv X V env → Fram X env' (r + 1) → o.F V target kI b S K → TrFor X target kI b env S K
noncomputable def starOk : Expr → Bool
  | .Starred .. => false
  | _ => true
theorem star_ok {e : Expr} (h : starOk e = true) (env : Env) (r : List Expr) : starEach (e :: r) env = (false, eval e env) :: starEach r env := by
  cases e <;> first | rfl | first | exact ff_tt h | exact nn_ss h | cases h
noncomputable def vL (E : VC → Expr → AS → (AV → AS → Prop) → Prop) (V : VC) : List Expr → AS → (List AV → AS → Prop) → Prop
  | [], S, K => K [] S
  | e :: r, S, K => vIf (starOk e) (E V e S fun v S1 => vL E V r S1 fun vs S2 => K (v :: vs) S2)
theorem vL_star {E : VC → Expr → AS → (AV → AS → Prop) → Prop} {V : VC} {e : Expr} {r : List Expr} {S : AS} {K : List AV → AS → Prop} (h : vL E V (e :: r) S K) : starOk e = true ∧ E V e S fun v S1 => vL E V r S1 fun vs S2 => K (v :: vs) S2 := vIf_ok h
noncomputable def starAll (es : List Expr) : Bool := es.all starOk
theorem star_any {es : List Expr} (h : starAll es = true) (env : Env) (pos : Pos) : ((backTo pos (starEach es env)).any fun x => x.1) = false := by
  induction es with
  | nil => rfl
  | cons e r ih =>
    simp only [starAll, List.all_cons, Bool.and_eq_true] at h
    rw [star_ok h.1]
    have ih := ih h.2
    simp only [backTo, List.map_cons, List.any_cons, Bool.false_or] at ih ⊢
    exact ih
section
variable {X : Cx} {V : VC} {env env' : Env} {r : Nat} {S : AS} {o : Orc}
theorem vL_ok (ho : OOk o) (h : VEnv X V env) (Fm : Fram X env' (r + 1)) : ∀ {es : List Expr} {S : AS} {K : List AV → AS → Prop} {pos : Pos}, vL o.E V es S K → TrL X (spliced (backTo pos (starEach es env))) S K
  | [], S, K, pos, hv => TL_nil hv
  | e :: rest, S, K, pos, hv => by
    obtain ⟨hs, hv⟩ := vL_star hv
    refine TL_cons ?_ (star_ok hs env rest)
    have : ∀ v S1, (vL o.E V rest S1 fun vs S2 => K (v :: vs) S2) → TrL X (spliced (backTo pos (starEach rest env))) S1 fun vs S2 => K (v :: vs) S2 := fun v S1 hh => vL_ok ho h Fm hh
    exact fun θ s E Q R p k => ho.E h Fm hv θ s E Q R p fun b S' θ' h' tk' a kb R' p' v => k b S' θ' h' tk' a (this b S' kb) R' p' v
/-- the operations -/
noncomputable def vI2 (a b : AV) (P : Int → Int → Prop) : Prop := vInt a fun x => vInt b fun y => P x y
theorem vI2_ok {a b : AV} {P : Int → Int → Prop} (h : vI2 a b P) : ∃ x y, a = .int x ∧ b = .int y ∧ P x y := by
  replace h := vInt_ok h; obtain ⟨x, rfl, h⟩ := h
  replace h := vInt_ok h; obtain ⟨y, rfl, h⟩ := h
  exact ⟨x, y, rfl, rfl, h⟩
noncomputable def one? (vs : List AV) : Option AV := match vs with
  | [] => none
  | v :: r => match r with
    | [] => some v
    | _ :: _ => none
theorem one?_ok {vs : List AV} {v : AV} (h : one? vs = some v) : vs = [v] := by
  cases vs with
  | nil => cases h
  | cons w r => cases r with
    | nil => cases h; rfl
    | cons _ _ => cases h
noncomputable def isRef (a : AV) : Bool := match a with
  | .ref _ => true
  | _ => false
noncomputable def vMulL (a b : AV) (S : AS) (K : AV → AS → Prop) : Prop := vRef a fun k => vInt b fun x => vLst S.hp[k]? fun vs => vOpt (one? vs) fun v => vDec (0 ≤ x ∧ x < 100) (K (.ref S.hp.length) (S.new (.lst (List.replicate x.toNat v))))
noncomputable def vMul (a b : AV) (S : AS) (K : AV → AS → Prop) : Prop := match isRef a with
  | false => vI2 a b fun x y => IntMulOk x y ∧ K (.int (x * y)) S
  | true => vMulL a b S K
noncomputable def vBin (op : Operator) (a b : AV) (S : AS) (K : AV → AS → Prop) : Prop := match op with
  | .Add => vI2 a b fun x y => K (.int (x + y)) S
  | .Sub => vI2 a b fun x y => K (.int (x - y)) S
  | .Mult => vMul a b S K
  | .FloorDiv => vI2 a b fun x y => (y ≠ 0 ∧ Sm y) ∧ K (.int (x.fdiv y)) S
  | .Mod => vI2 a b fun x y => y ≠ 0 ∧ K (.int (x.fmod y)) S
  | _ => False
theorem vBin_ok {op : Operator} {a b : AV} {K : AV → AS → Prop} (h : vBin op a b S K) : Tr2 X VR (binaryOp op) a b S K := by
  cases op with
  | Add => replace h := vI2_ok h; obtain ⟨x, y, rfl, rfl, h⟩ := h; exact T_add h
  | Sub => replace h := vI2_ok h; obtain ⟨x, y, rfl, rfl, h⟩ := h; exact T_sub h
  | Mult =>
    have h : vMul a b S K := h
    unfold vMul at h
    cases hr : isRef a with
    | false => rw [hr] at h; replace h := vI2_ok h; obtain ⟨x, y, rfl, rfl, h⟩ := h; exact T_mul h.1 h.2
    | true =>
      rw [hr] at h
      replace h := vRef_ok h; obtain ⟨k, rfl, h⟩ := h
      replace h := vInt_ok h; obtain ⟨x, rfl, h⟩ := h
      replace h := vLst_ok h; obtain ⟨vs, e, h⟩ := h
      replace h := vOpt_ok h; obtain ⟨v, e2, h⟩ := h
      cases one?_ok e2
      replace h := vDec_ok h; obtain ⟨⟨h0, h1⟩, h⟩ := h
      exact T_mulList e h0 h1 h
  | FloorDiv => replace h := vI2_ok h; obtain ⟨x, y, rfl, rfl, h⟩ := h; exact T_fdiv h.1.1 h.1.2 h.2
  | Mod => replace h := vI2_ok h; obtain ⟨x, y, rfl, rfl, h⟩ := h; exact T_mod h.1 h.2
  | _ => exact h.elim
noncomputable def vInts (S : AS) (a : AV) (P : List Int → Prop) : Prop := vRef a fun k => vLst S.hp[k]? fun vs => vOpt (ints? vs) P
theorem vInts_ok {a : AV} {P : List Int → Prop} (h : vInts S a P) : ∃ k vs ns, a = .ref k ∧ S.hp[k]? = some (.lst vs) ∧ ints? vs = some ns ∧ P ns := by
  replace h := vRef_ok h; obtain ⟨k, rfl, h⟩ := h
  replace h := vLst_ok h; obtain ⟨vs, e, h⟩ := h
  replace h := vOpt_ok h; obtain ⟨ns, e2, h⟩ := h
  exact ⟨k, vs, ns, rfl, e, e2, h⟩
noncomputable def ilO (o : Option AO) : Option (List Int) := match o with
  | some ao => match ao with
    | .il ns => some ns
    | _ => none
  | none => none
theorem ilO_ok {o : Option AO} {ns : List Int} (h : ilO o = some ns) : o = some (.il ns) := by
  cases o with
  | none => cases h
  | some ao => cases ao with
    | il _ => cases h; rfl
    | _ => first | exact ff_tt h | exact nn_ss h | cases h
noncomputable def vNe (a b : AV) (S : AS) (K : AV → AS → Prop) : Prop := vRef a fun k => match ilO S.hp[k]? with
  | some ns => vInts S b fun ms => K (.bool (!decide (ns = ms))) S
  | none => vInts S (.ref k) fun ns => vInts S b fun ms => K (.bool (!decide (ns = ms))) S
noncomputable def vCmp (op : CmpOp) (a b : AV) (S : AS) (K : AV → AS → Prop) : Prop := match exCmp op a b with
  | some c => K c S
  | none => match op with
    | .Eq => vInts S a fun ns => vInts S b fun ms => K (.bool (decide (ns = ms))) S
    | .NotEq => vNe a b S K
    | _ => False
theorem vCmp_ok {op : CmpOp} {a b : AV} {K : AV → AS → Prop} (Fm : Fram X env' (r + 1)) (h : vCmp op a b S K) : Tr2 X VR (compareOp op) a b S K := by
  unfold vCmp at h
  cases e : exCmp op a b with
  | some c => rw [e] at h; exact exCmp_ok e h
  | none =>
    rw [e] at h
    cases op with
    | Eq =>
      replace h := vInts_ok h; obtain ⟨k, vs, ns, rfl, h1, h2, h⟩ := h
      replace h := vInts_ok h; obtain ⟨j, us, ms, rfl, h3, h4, h⟩ := h
      exact T_eqList h1 h3 h2 h4 (Fram.hu Fm) h
    | NotEq =>
      replace h := vRef_ok h; obtain ⟨k, rfl, h⟩ := h
      cases hi : ilO S.hp[k]? with
      | some ns =>
        rw [hi] at h
        replace h := vInts_ok h; obtain ⟨j, us, ms, rfl, h3, h4, h⟩ := h
        exact T_neIl (ilO_ok hi) h3 h4 (Fram.hu Fm) h
      | none =>
        rw [hi] at h
        replace h := vInts_ok h; obtain ⟨k, vs, ns, e, h1, h2, h⟩ := h
        cases e
        replace h := vInts_ok h; obtain ⟨j, us, ms, rfl, h3, h4, h⟩ := h
        exact T_neList h1 h3 h2 h4 (Fram.hu Fm) h
    | _ => exact h.elim
noncomputable def seqO (ao : AO) : Option (List AV) := match ao with
  | .lst vs => some vs
  | .tup vs => some vs
  | _ => none
/-- which item an index means -/
noncomputable def ixOf (x : Int) (n : Nat) : Option Nat := match decide (0 ≤ x) with
  | true => match decide (x < 2 ^ 63) with
    | true => some x.toNat
    | false => none
  | false => match decide (-(2 ^ 63) ≤ x) with
    | true => seqIndex? x n
    | false => none
noncomputable def isLst (ao : AO) : Bool := match ao with
  | .lst _ => true
  | _ => false
noncomputable def vItem (i : Expr) (a b : AV) (S : AS) (K : AV → AS → Prop) : Prop := vIf (plainE i) (vRef a fun k => vInt b fun x => vOpt S.hp[k]? fun ao => vOpt (seqO ao) fun vs => vIf (isLst ao || decide (0 ≤ x)) (vOpt (ixOf x vs.length) fun j => vOpt vs[j]? fun v => K v S))
theorem vItem_ok {i l : Expr} {a b : AV} {K : AV → AS → Prop} (h : vItem i a b S K) : Tr2 X VR (subscriptTail l i) a b S K := by
  replace h := vIf_ok h; obtain ⟨hi, h⟩ := h
  replace h := vRef_ok h; obtain ⟨k, rfl, h⟩ := h
  replace h := vInt_ok h; obtain ⟨x, rfl, h⟩ := h
  replace h := vOpt_ok h; obtain ⟨ao, e1, h⟩ := h
  replace h := vOpt_ok h; obtain ⟨vs, e2, h⟩ := h
  replace h := vIf_ok h; obtain ⟨e0, h⟩ := h
  replace h := vOpt_ok h; obtain ⟨j, e3, h⟩ := h
  replace h := vOpt_ok h; obtain ⟨v, e4, h⟩ := h
  unfold ixOf at e3
  cases h0 : decide (0 ≤ x) with
  | true =>
    rw [h0] at e3
    have h0 := of_decide_eq_true h0
    cases h1 : decide (x < 2 ^ 63) with
    | true =>
      rw [h1] at e3
      have h1 := of_decide_eq_true h1
      cases e3
      cases ao with
      | lst ws => cases e2; exact T_item e1 h0 h1 e4 (fun l t => plain_sub hi l t) h
      | tup ws => cases e2; exact T_itemt e1 h0 h1 e4 (fun l t => plain_sub hi l t) h
      | _ => first | exact ff_tt e2 | exact nn_ss e2 | cases e2
    | false => rw [h1] at e3; cases e3
  | false =>
    rw [h0] at e3 e0
    have h0 := of_decide_eq_false h0
    cases h1 : decide (-(2 ^ 63) ≤ x) with
    | true =>
      rw [h1] at e3
      have h1 := of_decide_eq_true h1
      cases ao with
      | lst ws => cases e2; exact T_itemNeg e1 (Int.not_le.mp h0) h1 e3 e4 (fun l t => plain_sub hi l t) h
      | _ => first | exact ff_tt e0 | exact nn_ss e0 | cases e0
    | false => rw [h1] at e3; cases e3
end
end
noncomputable section
section
variable {X : Cx} {V : VC} {env env' : Env} {r : Nat} {S : AS} {o : Orc}
theorem TrG.mono {α β : Type} {W : List Addr → β → α → Prop} {t : Sem α} {K K' : β → AS → Prop} (h : TrG X W t S K) (hk : ∀ b S, K b S → K' b S) : TrG X W t S K' := fun θ s E Q R p k => h θ s E Q R p fun b S' θ' h' tk' a kb => k b S' θ' h' tk' a (hk b S' kb)
-- truth
noncomputable def vOr (B : VC → Expr → AS → (Bool → AS → Prop) → Prop) (V : VC) : List Expr → AS → (Bool → AS → Prop) → Prop
  | [], S, K => K false S
  | e :: r, S, K => B V e S fun b S1 => vBr b (K true S1) (vOr B V r S1 K)
noncomputable def vAnd (B : VC → Expr → AS → (Bool → AS → Prop) → Prop) (V : VC) : List Expr → AS → (Bool → AS → Prop) → Prop
  | [], S, K => K true S
  | e :: r, S, K => B V e S fun b S1 => vBr b (vAnd B V r S1 K) (K false S1)
theorem vOr_ok (ho : OOk o) (h : VEnv X V env) (Fm : Fram X env' (r + 1)) : ∀ {es : List Expr} {S : AS} {K : Bool → AS → Prop} {pos : Pos} {whole : Sem Value}, vOr o.B V es S K → TrB X (PySem.isTrue (.BoolOp .Or es pos) env whole) S K
  | [], S, K, pos, whole, hv => TB_or0 hv
  | e :: rest, S, K, pos, whole, hv => TB_or ((ho.B h Fm hv).mono fun b S1 hb => ⟨(vBr_ok hb).1, fun e => vOr_ok ho h Fm ((vBr_ok hb).2 e)⟩)
theorem vAnd_ok (ho : OOk o) (h : VEnv X V env) (Fm : Fram X env' (r + 1)) : ∀ {es : List Expr} {S : AS} {K : Bool → AS → Prop} {pos : Pos} {whole : Sem Value}, vAnd o.B V es S K → TrB X (PySem.isTrue (.BoolOp .And es pos) env whole) S K
  | [], S, K, pos, whole, hv => TB_and0 hv
  | e :: rest, S, K, pos, whole, hv => TB_and ((ho.B h Fm hv).mono fun b S1 hb => ⟨fun e => vAnd_ok ho h Fm ((vBr_ok hb).1 e), (vBr_ok hb).2⟩)
noncomputable def vBool (K : Bool → AS → Prop) : AV → AS → Prop
  | .bool b, S => K b S
  | _, _ => False
theorem vBool_ok {K : Bool → AS → Prop} {v : AV} {S : AS} (h : vBool K v S) : Tr1 X (fun _ b a => a = b) truthy v S K := by
  cases v <;> first | exact h.elim | exact T_truthy h
noncomputable def vCmpT (o : Orc) (V : VC) (l : Expr) (ops : List CmpOp) (rs : List Expr) (S : AS) (K : Bool → AS → Prop) : Prop := match ops with
  | [] => False
  | op :: ops => match ops with
    | [] => match rs with
      | [] => False
      | r :: rs => match rs with
        | [] => vIf (plainE r) (o.E V l S fun a S1 => o.E V r S1 fun b S2 => vCmp op a b S2 (vBool K))
        | _ :: _ => False
    | _ :: _ => False
noncomputable def vBoolT (o : Orc) (V : VC) (op : BoolOp) (es : List Expr) (S : AS) (K : Bool → AS → Prop) : Prop := match op with
  | .And => vAnd o.B V es S K
  | .Or => vOr o.B V es S K
noncomputable def vUnT (o : Orc) (V : VC) (op : UnaryOp) (e : Expr) (S : AS) (K : Bool → AS → Prop) : Prop := match op with
  | .Not => o.B V e S fun b S1 => K (!b) S1
  | _ => False
noncomputable def vTest (o : Orc) (V : VC) (t : Expr) (S : AS) (K : Bool → AS → Prop) : Prop := match t with
  | .BoolOp op es _ => vBoolT o V op es S K
  | .UnaryOp op e _ => vUnT o V op e S K
  | .Compare l ops rs _ => vCmpT o V l ops rs S K
  | .Name x p => o.E V (.Name x p) S (vBool K)
  | .Call f as ks p => o.E V (.Call f as ks p) S (vBool K)
  | _ => False
theorem vTest_ok (ho : OOk o) (h : VEnv X V env) (Fm : Fram X env' (r + 1)) {t : Expr} {K : Bool → AS → Prop} (hv : vTest o V t S K) : TrB X (PySem.isTrue t env (eval t env)) S K := by
  cases t with
  | BoolOp op es p => cases op with
    | And => exact vAnd_ok ho h Fm hv
    | Or => exact vOr_ok ho h Fm hv
  | UnaryOp op e p => cases op with
    | Not => exact TB_not (ho.B h Fm hv)
    | _ => exact hv.elim
  | Compare l ops rs p =>
    cases ops with
    | nil => exact hv.elim
    | cons op ops => cases ops with
      | cons _ _ => exact hv.elim
      | nil => cases rs with
        | nil => exact hv.elim
        | cons r rs => cases rs with
          | cons _ _ => exact hv.elim
          | nil =>
            have hv : vIf (plainE r) (o.E V l S fun a S1 => o.E V r S1 fun b S2 => vCmp op a b S2 (vBool K)) := hv
            obtain ⟨hp, hv⟩ := vIf_ok hv
            exact TB_cmp ((ho.E h Fm hv).mono fun a S1 h1 => (ho.E h Fm h1).mono fun b S2 h2 => by
              have := vCmp_ok (X := X) Fm h2
              exact fun θ s E Q c d R p v1 v2 k => this θ s E Q c d R p v1 v2 fun b' S' θ' h' tk' a' kb R' p' v => k b' S' θ' h' tk' a' (vBool_ok kb) R' p' v) (plain_mark hp)
  | Name x p => exact TB_plain ((ho.E h Fm hv).mono fun v S1 h1 => vBool_ok h1)
  | Call f as ks p => exact TB_plain ((ho.E h Fm hv).mono fun v S1 h1 => vBool_ok h1)
  | _ => exact hv.elim
-- calls
theorem of_kd {o : Option NameKind} {k : NameKind} (h : (o == some k) = true) : o = some k := by simpa using h
noncomputable def sumL : List Int → Int
  | [] => 0
  | [x] => x
  | x :: r => x + sumL r
theorem sumL_ok : ∀ ns : List Int, ns.sum = sumL ns
  | [] => rfl
  | [x] => by simp [sumL]
  | x :: y :: r => by rw [List.sum_cons, sumL_ok (y :: r)]; rfl
noncomputable def v1 (vs : List AV) (P : AV → Prop) : Prop := vOpt (one? vs) P
noncomputable def two? (vs : List AV) : Option (AV × AV) := match vs with
  | [] => none
  | v :: r => (one? r).map fun w => (v, w)
theorem two?_ok {vs : List AV} {c : AV × AV} (h : two? vs = some c) : vs = [c.1, c.2] := by
  cases vs with
  | nil => cases h
  | cons w r =>
    obtain ⟨u, h1, rfl⟩ := Option.map_eq_some_iff.mp h
    rw [one?_ok h1]
noncomputable def v2 (vs : List AV) (P : Int → Int → Prop) : Prop := vOpt (two? vs) fun c => vI2 c.1 c.2 P
theorem v2_ok {vs : List AV} {P : Int → Int → Prop} (h : v2 vs P) : ∃ x y, vs = [.int x, .int y] ∧ P x y := by
  obtain ⟨⟨a, b⟩, e, h⟩ := vOpt_ok h
  obtain ⟨x, y, h1, h2, h⟩ := vI2_ok h
  cases h1; cases h2
  exact ⟨x, y, two?_ok e, h⟩
noncomputable def v1L (vs : List AV) (S : AS) (P : Nat → List AV → Prop) : Prop := vOpt (one? vs) fun a => vRef a fun k => vLst S.hp[k]? fun ws => P k ws
theorem v1L_ok {vs : List AV} {P : Nat → List AV → Prop} (h : v1L vs S P) : ∃ k ws, vs = [.ref k] ∧ S.hp[k]? = some (.lst ws) ∧ P k ws := by
  obtain ⟨a, e, h⟩ := vOpt_ok h
  obtain ⟨k, h1, h2⟩ := vRef_ok h
  cases h1
  obtain ⟨ws, e2, h3⟩ := vLst_ok h2
  exact ⟨k, ws, one?_ok e, e2, h3⟩
noncomputable def vCallB (g : GB) (vs : List AV) (S : AS) (K : AV → AS → Prop) : Prop := match g with
  | .len => v1L vs S fun _ ws => vDec (ws.length ≤ 1000) (K (.int (ws.length : Int)) S)
  | .abs => v1 vs fun a => vInt a fun x => K (.int (x.natAbs : Int)) S
  | .min => v2 vs fun x y => K (.int (if y < x then y else x)) S
  | .max => v2 vs fun x y => K (.int (if y > x then y else x)) S
  | .list => v1L vs S fun _ ws => vDec (ws.length ≤ 1000) (K (.ref S.hp.length) (S.new (.lst ws)))
  | .sum => v1L vs S fun _ ws => vOpt (ints? ws) fun ns => K (.int (sumL ns)) S
  | .int => v1 vs fun a => vInt a fun x => K (.int x) S
  | _ => False
theorem vCallB_ok {g : GB} {vs : List AV} {K : AV → AS → Prop} (h : vCallB g vs S K) : (∃ id, g.val = .builtin id ∧ TrLs X VR (callF (.builtin id)) vs S K) ∨ (∃ id, g.val = .type id ∧ TrLs X VR (callF (.type id)) vs S K) := by
  cases g with
  | len =>
    obtain ⟨k, ws, rfl, e, h1⟩ := v1L_ok h
    exact .inl ⟨_, rfl, T_len e (vDec_ok h1).1 (vDec_ok h1).2⟩
  | abs =>
    obtain ⟨a, e, h1⟩ := vOpt_ok h
    obtain ⟨x, h2, h3⟩ := vInt_ok h1
    cases h2
    cases one?_ok e
    exact .inl ⟨_, rfl, T_abs h3⟩
  | min => obtain ⟨x, y, rfl, h1⟩ := v2_ok h; exact .inl ⟨_, rfl, T_min h1⟩
  | max => obtain ⟨x, y, rfl, h1⟩ := v2_ok h; exact .inl ⟨_, rfl, T_max h1⟩
  | list =>
    obtain ⟨k, ws, rfl, e, h1⟩ := v1L_ok h
    exact .inr ⟨_, rfl, T_listOf e (vDec_ok h1).1 (vDec_ok h1).2⟩
  | int =>
    obtain ⟨a, e, h1⟩ := vOpt_ok h
    obtain ⟨x, h2, h3⟩ := vInt_ok h1
    cases h2
    cases one?_ok e
    exact .inr ⟨_, rfl, T_int1 h3⟩
  | sum =>
    obtain ⟨k, ws, rfl, e, h1⟩ := v1L_ok h
    obtain ⟨ns, e2, h2⟩ := vOpt_ok h1
    exact .inl ⟨_, rfl, T_sum e e2 (sumL_ok ns) h2⟩
  | _ => exact h.elim
/-- a method of a list's -/
noncomputable def vApd (vs : List AV) (k : Nat) (x : AV) (S : AS) (K : AV → AS → Prop) : Prop := vDec (vs.length ≤ 1000) (K .nil (S.put k (.lst (vs ++ [x]))))
noncomputable def vAppM (o : Orc) (V : VC) (ob e : Expr) (S : AS) (K : AV → AS → Prop) : Prop := o.E V ob S fun ov S1 => vRef ov fun k => vLst S1.hp[k]? fun _ => o.E V e S1 fun x S2 => vLst S2.hp[k]? fun ws => vApd ws k x S2 K
noncomputable def is0 (v : AV) : Bool := match v with
  | .int x => x == 0
  | _ => false
noncomputable def vPopM (o : Orc) (V : VC) (ob e : Expr) (S : AS) (K : AV → AS → Prop) : Prop := o.E V ob S fun ov S1 => vRef ov fun k => vOpt (ilO S1.hp[k]?) fun _ => o.E V e S1 fun x S2 => vIf (is0 x) (vOpt (ilO S2.hp[k]?) fun ns => match ns with
  | [] => False
  | y :: ns => ns.length ≤ 1000 ∧ K (.int y) (S2.put k (.il ns)))
noncomputable def isName : Expr → Bool
  | .Name .. => true | .Subscript .. => true | _ => false
/-- how a method's call is worked out -/
noncomputable def MEq (ob e : Expr) (nm : Str) (ap pos : Pos) (env : Env) (pl : Sem Bool) : Prop := eval (.Call (.Attribute ob nm ap) [e] [] pos) env = (do let ov ← eval ob env; standAt ap.atName; let (f, first) ← holding [ov] (getMethod ov nm pl); callWith pos f first (backTo pos (starEach [e] env)) [])
theorem meth_eq {ob e : Expr} {nm : Str} {ap pos : Pos} {env : Env} (h1 : starEach (e :: []) env = (false, eval e env) :: starEach [] env) (h2 : (ap.endLine == pos.line) = true) (h : eval (.Call (.Attribute ob nm ap) [e] [] pos) env = (do let ov ← eval ob env; standAt ap.atName; methodCall ob nm ap pos env ov 1 (backTo pos (starEach [e] env)) [])) : ∃ pl, MEq ob e nm ap pos env pl := by
  unfold MEq
  rw [h, h1]
  unfold methodCall methodCallPos
  simp only [h2, Bool.or_true, if_true, pure_bind]
  exact ⟨_, rfl⟩
theorem meth_ob {ob e : Expr} {nm : Str} {ap pos : Pos} {env : Env} (hs : (starOk e && (ap.endLine == pos.line)) && isName ob) : ∃ pl, MEq ob e nm ap pos env pl := by
  rw [Bool.and_eq_true, Bool.and_eq_true] at hs
  have hse := star_ok hs.1.1 env []
  cases ob with
  | Name _ _ => exact meth_eq hse hs.1.2 rfl
  | Subscript _ _ _ => exact meth_eq hse hs.1.2 rfl
  | _ => first | exact ff_tt hs.2 | exact nn_ss hs.2 | cases hs.2
noncomputable def vMeth (o : Orc) (V : VC) (ap pos : Pos) (ob : Expr) (nm : Str) (as : List Expr) (S : AS) (K : AV → AS → Prop) : Prop := match as with
  | [] => False
  | e :: r => match r with
    | _ :: _ => False
    | [] => vIf ((starOk e && (ap.endLine == pos.line)) && isName ob) (match decide (nm = Str.ofString "append") with
      | true => vAppM o V ob e S K
      | false => vIf (decide (nm = Str.ofString "pop")) (vPopM o V ob e S K))
theorem vAppM_ok (ho : OOk o) (h : VEnv X V env) (Fm : Fram X env' (r + 1)) {ob e : Expr} {ap pos : Pos} {K : AV → AS → Prop} {pl : Sem Bool} (hm : MEq ob e (Str.ofString "append") ap pos env pl) (hse : starEach (e :: []) env = (false, eval e env) :: starEach [] env) (h1 : vAppM o V ob e S K) : Tr X (eval (.Call (.Attribute ob (Str.ofString "append") ap) [e] [] pos) env) S K :=
  T_appendM (pl := pl) ((ho.E h Fm h1).mono fun ov S1 h2 => by
    obtain ⟨k, h3, h4⟩ := vRef_ok h2
    obtain ⟨ws0, e1, h5⟩ := vLst_ok h4
    refine ⟨k, ws0, h3, e1, (ho.E h Fm h5).mono fun x S2 h6 => ?_⟩
    obtain ⟨ws, e2, h7⟩ := vLst_ok h6
    exact ⟨ws, e2, vDec_ok h7⟩) hm hse
theorem is0_ok {v : AV} (h : is0 v = true) : v = .int 0 := by
  cases v with
  | int x => rw [beq_iff_eq.mp (show (x == 0) = true from h)]
  | _ => first | exact ff_tt h | exact nn_ss h | cases h
theorem vPopM_ok (ho : OOk o) (h : VEnv X V env) (Fm : Fram X env' (r + 1)) {ob e : Expr} {ap pos : Pos} {K : AV → AS → Prop} {pl : Sem Bool} (hm : MEq ob e (Str.ofString "pop") ap pos env pl) (hse : starEach (e :: []) env = (false, eval e env) :: starEach [] env) (h2 : vPopM o V ob e S K) : Tr X (eval (.Call (.Attribute ob (Str.ofString "pop") ap) [e] [] pos) env) S K :=
  T_popIl (pl := pl) ((ho.E h Fm h2).mono fun ov S1 h3 => by
    obtain ⟨k, h4, h5⟩ := vRef_ok h3
    obtain ⟨ns0, e1, h6⟩ := vOpt_ok h5
    refine ⟨k, ns0, h4, ilO_ok e1, (ho.E h Fm h6).mono fun x S2 h7 => ?_⟩
    obtain ⟨hx, h8⟩ := vIf_ok h7
    obtain ⟨ns, e2, h9⟩ := vOpt_ok h8
    cases ns with
    | nil => exact h9.elim
    | cons y ns => exact ⟨is0_ok hx, y, ns, ilO_ok e2, h9.1, h9.2⟩) hm hse
theorem vMeth_ok (ho : OOk o) (h : VEnv X V env) (Fm : Fram X env' (r + 1)) {ob : Expr} {nm : Str} {as : List Expr} {ap pos : Pos} {K : AV → AS → Prop} (hv : vMeth o V ap pos ob nm as S K) : Tr X (eval (.Call (.Attribute ob nm ap) as [] pos) env) S K := by
  cases as with
  | nil => exact hv.elim
  | cons e rr => cases rr with
    | cons _ _ => exact hv.elim
    | nil =>
      obtain ⟨hs, h1⟩ := vIf_ok (show vIf ((starOk e && (ap.endLine == pos.line)) && isName ob) _ from hv)
      clear hv
      have hse := star_ok ((Bool.and_eq_true _ _).mp ((Bool.and_eq_true _ _).mp hs).1).1 env []
      obtain ⟨pl, hm⟩ := meth_ob (nm := nm) (env := env) hs
      cases hd : decide (nm = Str.ofString "append") with
      | true =>
        rw [hd] at h1
        have e0 := of_decide_eq_true hd
        rw [e0] at hm ⊢
        exact vAppM_ok ho h Fm hm hse h1
      | false =>
        rw [hd] at h1
        obtain ⟨hd2, h2⟩ := vIf_ok h1
        have e0 := of_decide_eq_true hd2
        rw [e0] at hm ⊢
        exact vPopM_ok ho h Fm hm hse h2
noncomputable def vCallN (o : Orc) (V : VC) (x : Str) (as : List Expr) (S : AS) (K : AV → AS → Prop) : Prop := match as with
  | [] => False
  | e :: rest => vIf (starAll rest) (match V.gl.lookup x with
    | some g => vL o.E V (e :: rest) S fun vs S1 => vCallB g vs S1 K
    | none => vIf (V.kinds.lookup x == some .globalImplicit) (vOpt (V.fn.lookup x) fun sp => vL o.E V (e :: rest) S fun vs S1 => sp vs S1 K))
noncomputable def vCall (o : Orc) (V : VC) (pos : Pos) (f : Expr) (as : List Expr) (S : AS) (K : AV → AS → Prop) : Prop := match f with
  | .Name x _ => vCallN o V x as S K
  | .Attribute ob nm ap => vMeth o V ap pos ob nm as S K
  | _ => False
theorem vCall_ok (ho : OOk o) (h : VEnv X V env) (Fm : Fram X env' (r + 1)) {f : Expr} {as : List Expr} {pos : Pos} {K : AV → AS → Prop} (hv : vCall o V pos f as S K) : Tr X (eval (.Call f as [] pos) env) S K := by
  cases f with
  | Attribute ob nm ap => exact vMeth_ok ho h Fm hv
  | Name x fp => cases as with
    | nil => exact hv.elim
    | cons e rest =>
      obtain ⟨hs, h0⟩ := vIf_ok (show vIf (starAll rest) _ from hv)
      cases hg : V.gl.lookup x with
      | some g =>
        rw [hg] at h0
        have G := h.gok x g hg
        have h1 := (vL_star h0).1
        have hl : TrL X (spliced (backTo pos (starEach (e :: rest) env))) S fun vs S1 => vCallB g vs S1 K := vL_ok ho h Fm h0
        have key : ∀ id, g.val = .builtin id → Tr X (eval (.Call (.Name x fp) (e :: rest) [] pos) env) S K := fun id e1 => by
          rw [e1] at G
          refine T_callB G (hl.mono fun vs S1 hc => ?_) rfl (star_ok h1 env rest) (star_any hs env pos)
          rcases vCallB_ok (X := X) hc with ⟨id', e2, h2⟩ | ⟨id', e2, h2⟩
          · rw [e1] at e2; cases e2; exact h2
          · rw [e1] at e2; cases e2
        have key2 : ∀ id, g.val = .type id → Tr X (eval (.Call (.Name x fp) (e :: rest) [] pos) env) S K := fun id e1 => by
          rw [e1] at G
          refine T_callT G (hl.mono fun vs S1 hc => ?_) rfl (star_ok h1 env rest) (star_any hs env pos)
          rcases vCallB_ok (X := X) hc with ⟨id', e2, h2⟩ | ⟨id', e2, h2⟩
          · rw [e1] at e2; cases e2
          · rw [e1] at e2; cases e2; exact h2
        cases g <;> first | exact key _ rfl | exact key2 _ rfl
      | none =>
        rw [hg] at h0
        obtain ⟨hk, h2⟩ := vIf_ok h0
        obtain ⟨sp, hf, h3⟩ := vOpt_ok h2
        obtain ⟨fa, G, hkeep, hsp⟩ := h.glbU (of_kd hk) hf
        have h1 := (vL_star h3).1
        exact T_callU Fm G hkeep ((vL_ok ho h Fm h3).mono fun vs S1 hc => hsp vs S1 K hc) rfl (star_ok h1 env rest) (star_any hs env pos)
  | _ => exact hv.elim
end
end
noncomputable section
section
variable {X : Cx} {V : VC} {env env' : Env} {r : Nat} {S : AS} {o : Orc}
theorem Tr1.mono {α β : Type} {W : List Addr → β → α → Prop} {f : Value → Sem α} {a : AV} {K K' : β → AS → Prop} (h : Tr1 X W f a S K) (hk : ∀ b S, K b S → K' b S) : Tr1 X W f a S K' := fun θ s E Q c R p v k => h θ s E Q c R p v fun b S' θ' h' tk' a kb => k b S' θ' h' tk' a (hk b S' kb)
-- what is iterated
noncomputable def itOk : Expr → Bool
  | .Name .. => true | .Call .. => true | .Tuple .. => true | .List .. => true | .Subscript .. => true | _ => false
theorem it_ok {e : Expr} (h : itOk e = true) (env : Env) : ∀ x, foldedSetIterable e env x = pure x := by
  cases e <;> first | (intro _; rfl) | first | exact ff_tt h | exact nn_ss h | cases h
noncomputable def vItL (S : AS) (K : Nat → AS → Prop) (v : AV) : Prop := vRef v fun k => vLst S.hp[k]? fun _ => K S.hp.length (S.new (.li k 0))
noncomputable def vItT (S : AS) (K : Nat → AS → Prop) (v : AV) : Prop := vRef v fun k => vTupl S.hp[k]? fun _ => K S.hp.length (S.new (.ti k 0))
noncomputable def vItE (S : AS) (K : Nat → AS → Prop) (v : AV) : Prop := vRef v fun k => vLst S.hp[k]? fun _ => K (S.hp.length + 1) ((S.new (.li k 0)).new (.en S.hp.length 0))
/-- a range's ends: its conditions are decided, or asked for -/
noncomputable def vItR (S : AS) (K : Nat → AS → Prop) (x : Int) (v : AV) : Prop := vInt v fun y => vDec (x ≤ y ∧ -(2 ^ 62) ≤ x ∧ y < 2 ^ 62) (K S.hp.length (S.new (.ri x (y - x))))
noncomputable def vItR2 (S : AS) (K : Nat → AS → Prop) (v2 : AV) (v1 : AV) : Prop := vInt v1 fun x => vItR S K x v2
inductive IK where
  | r | e | l
noncomputable def ikOf : Option GB → IK
  | some .range => .r | some .enum => .e | _ => .l
theorem ikOf_r {o : Option GB} (h : ikOf o = .r) : o = some .range := by
  cases o with
  | none => cases h
  | some g => cases g <;> first | rfl | cases h
theorem ikOf_e {o : Option GB} (h : ikOf o = .e) : o = some .enum := by
  cases o with
  | none => cases h
  | some g => cases g <;> first | rfl | cases h
/-- a call that is iterated -/
noncomputable def vItC (o : Orc) (V : VC) (x : Str) (as : List Expr) (e : Expr) (S : AS) (K : Nat → AS → Prop) : Prop := match ikOf (V.gl.lookup x) with
  | .l => o.E V e S fun v S1 => vItL S1 K v
  | .r => match as with
    | [] => False
    | a :: as => match as with
      | [] => vIf (starOk a) (o.E V a S fun v S1 => vItR S1 K 0 v)
      | b :: as => match as with
        | [] => vIf (starOk a) (vIf (starOk b) (o.E V a S fun v S1 => o.E V b S1 fun v2 S2 => vItR2 S2 K v2 v))
        | _ :: _ => False
  | .e => match as with
    | [] => False
    | a :: as => match as with
      | [] => vIf (starOk a) (o.E V a S fun v S1 => vItE S1 K v)
      | _ :: _ => False
noncomputable def vItF (o : Orc) (V : VC) (f : Expr) (as : List Expr) (ks : List Keyword) (e : Expr) (S : AS) (K : Nat → AS → Prop) : Prop := match ks with
  | _ :: _ => False
  | [] => match f with
    | .Name x _ => vItC o V x as e S K
    | _ => False
noncomputable def vIt (o : Orc) (V : VC) (e : Expr) (S : AS) (K : Nat → AS → Prop) : Prop := match e with
  | .Call f as ks p => vItF o V f as ks (.Call f as ks p) S K
  | .Tuple es j p => o.E V (.Tuple es j p) S fun v S1 => vItT S1 K v
  | e => o.E V e S fun v S1 => vItL S1 K v
theorem vItL_ok {e : Expr} {K : Nat → AS → Prop} (h : Tr X (eval e env) S fun v S1 => vItL S1 K v) : TrIt X e env S K := TIt_list (h.mono fun v S1 hv => by
  obtain ⟨k, h1, h2⟩ := vRef_ok hv
  obtain ⟨vs, e1, h3⟩ := vLst_ok h2
  exact ⟨k, vs, h1, e1, h3⟩)
theorem vItC_ok (ho : OOk o) (h : VEnv X V env) (Fm : Fram X env' (r + 1)) {x : Str} {xp p : Pos} {as : List Expr} {K : Nat → AS → Prop} (hv : vItC o V x as (.Call (.Name x xp) as [] p) S K) : TrIt X (.Call (.Name x xp) as [] p) env S K := by
  unfold vItC at hv
  cases hg : ikOf (V.gl.lookup x) with
  | l => rw [hg] at hv; exact vItL_ok (ho.E h Fm hv)
  | r =>
    rw [hg] at hv
    have G := h.gok _ _ (ikOf_r hg)
    cases as with
    | nil => exact hv.elim
    | cons a as => cases as with
      | nil =>
        obtain ⟨hs, h1⟩ := vIf_ok hv
        refine TIt_range1 G ((ho.E h Fm h1).mono fun v S1 h2 => ?_) rfl (star_ok hs env [])
        obtain ⟨y, h3, h4⟩ := vInt_ok h2
        obtain ⟨⟨d1, d2, d3⟩, h5⟩ := vDec_ok h4
        exact ⟨y, h3, d1, d3, h5⟩
      | cons b as => cases as with
        | cons _ _ => exact hv.elim
        | nil =>
          obtain ⟨hs, h1⟩ := vIf_ok hv
          obtain ⟨hs2, h2⟩ := vIf_ok h1
          refine TIt_range2 G ((ho.E h Fm h2).mono fun v S1 h3 => (ho.E h Fm h3).mono fun v2 S2 h4 => ?_) rfl (star_ok hs env _) (star_ok hs2 env _) (star_any (by simp [starAll, hs2]) env _)
          obtain ⟨x, h5, h6⟩ := vInt_ok h4
          obtain ⟨y, h7, h8⟩ := vInt_ok h6
          obtain ⟨⟨d1, d2, d3⟩, h9⟩ := vDec_ok h8
          exact ⟨x, y, h5, h7, d1, d2, d3, h9⟩
  | e =>
    rw [hg] at hv
    have G := h.gok _ _ (ikOf_e hg)
    cases as with
    | nil => exact hv.elim
    | cons a as => cases as with
      | cons _ _ => exact hv.elim
      | nil =>
        obtain ⟨hs, h1⟩ := vIf_ok hv
        refine TIt_enum G ((ho.E h Fm h1).mono fun v S1 h2 => ?_) rfl (star_ok hs env [])
        obtain ⟨k, h3, h4⟩ := vRef_ok h2
        obtain ⟨vs, e1, h5⟩ := vLst_ok h4
        exact ⟨k, vs, h3, e1, h5⟩
theorem vIt_ok (ho : OOk o) (h : VEnv X V env) (Fm : Fram X env' (r + 1)) {e : Expr} {K : Nat → AS → Prop} (hv : vIt o V e S K) : TrIt X e env S K := by
  cases e with
  | Call f as ks p => cases ks with
    | cons _ _ => exact hv.elim
    | nil => cases f with
      | Name x xp => exact vItC_ok ho h Fm hv
      | _ => exact hv.elim
  | Tuple es j p =>
    refine TIt_tup ((ho.E h Fm hv).mono fun v S1 h1 => ?_)
    obtain ⟨k, h2, h3⟩ := vRef_ok h1
    obtain ⟨vs, e1, h4⟩ := vTupl_ok h3
    exact ⟨k, vs, h2, e1, h4⟩
  | _ => exact vItL_ok (ho.E h Fm hv)
-- targets
noncomputable def nmOf (e : Expr) : Option Str := match e with
  | .Name x _ => some x
  | _ => none
theorem nmOf_ok {e : Expr} {x : Str} (h : nmOf e = some x) : ∃ p, e = .Name x p := by
  cases e with
  | Name y p => cases h; exact ⟨p, rfl⟩
  | _ => first | exact ff_tt h | exact nn_ss h | cases h
noncomputable def vTgt2 (V : VC) (es : List Expr) (v : AV) (S : AS) (K : AS → Prop) : Prop := match es with
  | [] => False
  | t1 :: es => match es with
    | [] => False
    | t2 :: es => match es with
      | _ :: _ => False
      | [] => vOpt (nmOf t1) fun x => vOpt (nmOf t2) fun y => vRef v fun k => vTupl S.hp[k]? fun vs => vOpt (two? vs) fun c => vStore V x c.1 S fun S1 => vStore V y c.2 S1 K
noncomputable def vTgt (V : VC) (t : Expr) (v : AV) (S : AS) (K : AS → Prop) : Prop := match t with
  | .Name x _ => vStore V x v S K
  | .Tuple es _ _ => vTgt2 V es v S K
  | _ => False
theorem vTgt_ok (h : VEnv X V env) {t : Expr} {v : AV} {K : AS → Prop} (hv : vTgt V t v S K) : Tr1 X (fun _ _ _ => True) (assign t env) v S (fun (_ : Unit) S' => K S') := by
  cases t with
  | Name x p => exact T_assignN (vStore_ok h hv)
  | Tuple es j p =>
    cases es with
    | nil => exact hv.elim
    | cons t1 es => cases es with
      | nil => exact hv.elim
      | cons t2 es => cases es with
        | cons _ _ => exact hv.elim
        | nil =>
          obtain ⟨x, e1, h1⟩ := vOpt_ok hv
          obtain ⟨y, e2, h2⟩ := vOpt_ok h1
          obtain ⟨p1, e1⟩ := nmOf_ok e1
          obtain ⟨p2, e2⟩ := nmOf_ok e2
          obtain ⟨k, e3, h3⟩ := vRef_ok h2
          obtain ⟨vs, e4, h4⟩ := vTupl_ok h3
          obtain ⟨⟨a, b⟩, e5, h5⟩ := vOpt_ok h4
          have e5 := two?_ok e5
          cases e1; cases e2; cases e3; cases e5
          refine T_unpack e4 ?_
          exact TI_cons (T_assignN ((vStore_ok h h5).mono fun _ S1 h1 => TI_cons (T_assignN ((vStore_ok h h1).mono fun _ S2 h2 => TI_nil h2))))
  | _ => exact hv.elim
end
end
noncomputable section
section
variable {X : Cx} {V : VC} {env env' : Env} {r : Nat} {S : AS} {o : Orc}
noncomputable def vApp (kD : Nat) (S : AS) (K : AS → Prop) (x : AV) : Prop := vLst S.hp[kD]? fun ws => vDec (ws.length ≤ 1000) (fcS (S.put kD (.lst (ws ++ [x]))) K)
theorem vApp_ok {kD : Nat} {K : AS → Prop} {x : AV} (h : vApp kD S K x) : ∃ ws, S.hp[kD]? = some (.lst ws) ∧ ws.length ≤ 1000 ∧ K (S.put kD (.lst (ws ++ [x]))) := by
  obtain ⟨ws, e, h1⟩ := vLst_ok h
  exact ⟨ws, e, (vDec_ok h1).1, fcS_ok (vDec_ok h1).2⟩
/-- a turn of a comprehension -/
noncomputable def vTurn (o : Orc) (V : VC) (elt target : Expr) (ifs : List Expr) (kI kD : Nat) (v : AV) (S : AS) (K : AS → Prop) : Prop := match ifs with
  | [] => vTgt V target v S fun S2 => o.E V elt S2 fun x S3 => vApp kD S3 (fun S4 => o.C V elt target [] kI kD S4 K) x
  | t :: ts => match ts with
    | [] => vTgt V target v S fun S2 => o.B V t S2 fun b S3 => vBr b (o.E V elt S3 fun x S4 => vApp kD S4 (fun S5 => o.C V elt target [t] kI kD S5 K) x) (o.C V elt target [t] kI kD S3 K)
    | _ :: _ => False
theorem vTurn_ok (ho : OOk o) (h : VEnv X V env) (Fm : Fram X env' (r + 1)) {elt target iter : Expr} {ifs : List Expr} {scope : Scope} {pos : Pos} {kI kD : Nat} {v : AV} {K : AS → Prop} (hv : vTurn o V elt target ifs kI kD v S K) : ifs.length ≤ 1 ∧ Turn X elt target iter ifs scope pos kI kD env v S K := by
  cases ifs with
  | nil =>
    refine ⟨Nat.zero_le _, ?_⟩
    show Tr1 X _ _ _ _ _
    exact (vTgt_ok h hv).mono fun _ S2 h2 => (ho.E h Fm h2).mono fun x S3 h3 => by
      obtain ⟨ws, e, hl, h4⟩ := vApp_ok h3
      exact ⟨ws, e, hl, ho.C h Fm h4⟩
  | cons t ts => cases ts with
    | nil =>
      refine ⟨Nat.le_refl _, ?_⟩
      show Tr1 X _ _ _ _ _
      exact (vTgt_ok h hv).mono fun _ S2 h2 => (ho.B h Fm h2).mono fun b S3 h3 => ⟨fun e => (ho.E h Fm ((vBr_ok h3).1 e)).mono fun x S4 h4 => by
        obtain ⟨ws, e, hl, h5⟩ := vApp_ok h4
        exact ⟨ws, e, hl, ho.C h Fm h5⟩, fun e => ho.C h Fm ((vBr_ok h3).2 e)⟩
    | cons _ _ => exact hv.elim
noncomputable def oneIf : List Expr → Bool
  | [] => true
  | _ :: r => r.isEmpty
theorem oneIf_ok {l : List Expr} (h : oneIf l = true) : l.length ≤ 1 := by
  cases l with
  | nil => exact Nat.zero_le _
  | cons _ r => cases r with
    | nil => exact Nat.le_refl _
    | cons _ _ => cases h
/-- the loop of a comprehension -/
noncomputable def vCpN (o : Orc) (V : VC) (elt target : Expr) (ifs : List Expr) (kI kD : Nat) (S : AS) (K : AS → Prop) (ao : AO) : Prop := match ao with
  | .li k i => vLst S.hp[k]? fun vs => match vs[i]? with
    | some v => vTurn o V elt target ifs kI kD v (S.put kI (.li k (i + 1))) K
    | none => K (S.put kI .gone)
  | .ri y n => match decide (0 < n) with
    | true => vTurn o V elt target ifs kI kD (.int y) (S.put kI (.ri (y + 1) (n - 1))) K
    | false => K (S.put kI .gone)
  | _ => False
noncomputable def liO (o : Option AO) : Option (Nat × Nat) := match o with
  | some ao => match ao with
    | .li k i => some (k, i)
    | _ => none
  | none => none
theorem liO_ok {o : Option AO} {c : Nat × Nat} (h : liO o = some c) : o = some (.li c.1 c.2) := by
  cases o with
  | none => cases h
  | some ao => cases ao with
    | li _ _ => cases h; rfl
    | _ => first | exact ff_tt h | exact nn_ss h | cases h
noncomputable def vCpT (o : Orc) (V : VC) (elt target : Expr) (ifs : List Expr) (kI kD : Nat) (S : AS) (K : AS → Prop) (ao : AO) : Prop := match ao with
  | .en kJ i => vOpt (liO S.hp[kJ]?) fun c => vDec (c.2 = i ∧ c.1 ≠ kI ∧ c.1 ≠ kJ ∧ kI ≠ kJ) (vLst S.hp[c.1]? fun vs => match vs[i]? with
    | some v => vTurn o V elt target ifs kI kD (.ref S.hp.length) (((S.put kI (.en kJ (i + 1))).put kJ (.li c.1 (i + 1))).new (.tup [.int i, v])) K
    | none => K ((S.put kI .gone).put kJ .gone))
  | _ => False
noncomputable def vCp (o : Orc) (V : VC) (elt target : Expr) (ifs : List Expr) (kI kD : Nat) (S : AS) (K : AS → Prop) : Prop := vIf (oneIf ifs) (vOpt S.hp[kI]? fun ao => match target with
  | .Name x p => vCpN o V elt (.Name x p) ifs kI kD S K ao
  | .Tuple es j p => vCpT o V elt (.Tuple es j p) ifs kI kD S K ao
  | _ => False)
theorem vCp_ok (ho : OOk o) (h : VEnv X V env) (Fm : Fram X env' (r + 1)) {elt target iter : Expr} {ifs : List Expr} {scope : Scope} {pos : Pos} {kI kD : Nat} {K : AS → Prop} (hv : vCp o V elt target ifs kI kD S K) : TrCp X (.ListComp elt [⟨target, iter, ifs, 0⟩] scope pos) kI kD env S K := by
  obtain ⟨hi, h1⟩ := vIf_ok hv
  obtain ⟨ao, e1, h2⟩ := vOpt_ok h1
  have hi := oneIf_ok hi
  cases target with
  | Name x p => cases ao with
    | li k i =>
      obtain ⟨vs, e2, h3⟩ := vLst_ok h2
      cases e3 : vs[i]? with
      | some v => rw [e3] at h3; exact TCp_list e1 e2 e3 (vTurn_ok ho h Fm h3).2
      | none => rw [e3] at h3; exact TCp_list0 hi e1 e2 e3 h3
    | ri y n =>
      have h2 : (match decide (0 < n) with | true => vTurn o V elt (.Name x p) ifs kI kD (.int y) (S.put kI (.ri (y + 1) (n - 1))) K | false => K (S.put kI .gone)) := h2
      cases hn : decide (0 < n) with
      | true => rw [hn] at h2; exact TCp_range e1 (of_decide_eq_true hn) (vTurn_ok ho h Fm h2).2
      | false => rw [hn] at h2; exact TCp_range0 hi e1 (Int.not_lt.mp (of_decide_eq_false hn)) h2
    | _ => exact h2.elim
  | Tuple es j p => cases ao with
    | en kJ i =>
      obtain ⟨⟨k, i'⟩, e2, h3⟩ := vOpt_ok h2
      obtain ⟨d0, h4⟩ := vDec_ok h3
      obtain ⟨vs, e3, h5⟩ := vLst_ok h4
      have e2 := liO_ok e2
      obtain ⟨d0, d1, d2, d3⟩ := d0
      have d0 : i' = i := d0
      subst d0
      cases e4 : vs[i']? with
      | some v => rw [e4] at h5; exact TCp_enum e1 e2 e3 e4 d1 d2 d3 (vTurn_ok ho h Fm h5).2
      | none => rw [e4] at h5; exact TCp_enum0 hi e1 e2 e3 e4 d1 d2 d3 h5
    | _ => exact h2.elim
  | _ => exact h2.elim
noncomputable def itB (o : Option AO) : Bool := match o with
  | some ao => match ao with
    | .li _ _ => true
    | .ri _ _ => true
    | .en _ _ => true
    | _ => false
  | none => false
theorem itB_ok {a : Option AO} (h : itB a = true) : ∃ ao, a = some ao ∧ ((∃ k i, ao = .li k i) ∨ (∃ x n, ao = .ri x n) ∨ ∃ k i, ao = .en k i) := by
  cases a with
  | none => cases h
  | some ao => cases ao with
    | li _ _ => exact ⟨_, rfl, .inl ⟨_, _, rfl⟩⟩
    | ri _ _ => exact ⟨_, rfl, .inr (.inl ⟨_, _, rfl⟩)⟩
    | en _ _ => exact ⟨_, rfl, .inr (.inr ⟨_, _, rfl⟩)⟩
    | _ => first | exact ff_tt h | exact nn_ss h | cases h
noncomputable def fnScope (s : Scope) : Bool := match s.kind with
  | .function => true
  | _ => false
theorem fnScope_ok {s : Scope} (h : fnScope s = true) : s.kind = .function := by
  unfold fnScope at h
  split at h
  · assumption
  · cases h
noncomputable def locOk (names : List (Str × NameKind)) : Bool := names.all fun y => y.2 != .local || names.lookup y.1 == some .local
theorem locOk_ok {names : List (Str × NameKind)} (h : locOk names = true) : ∀ y ∈ names, y.2 = .local → names.lookup y.1 = some .local := fun y hy e => by
  have := List.all_eq_true.mp h y hy
  simpa [e] using this
noncomputable def cellNames (names : List (Str × NameKind)) : List Str := (names.filter fun p => p.2 == .cell).map (·.1)
theorem cells0 {names : List (Str × NameKind)} (h : cellNames names = []) : ∀ y ∈ names, y.2 ≠ .cell := fun y hy e => by
  have h1 : names.filter (fun p => p.2 == .cell) = [] := List.map_eq_nil_iff.mp h
  have := List.filter_eq_nil_iff.mp h1 y hy
  exact this (by rw [e]; rfl)
theorem cells_none : ∀ {names : List (Str × NameKind)} {n : Nat} {acc : List (Str × Addr)}, cellNames names = [] → cellsFrom n names acc = acc ∧ ∀ g, pushCells g names = g
  | [], _, _, _ => ⟨rfl, fun _ => rfl⟩
  | (x, k) :: rest, n, acc, h => by
    unfold cellsFrom
    by_cases hk : (k == NameKind.cell) = true
    · exfalso
      unfold cellNames at h
      rw [List.filter_cons, if_pos hk] at h
      cases h
    · have h' : cellNames rest = [] := by
        unfold cellNames at h ⊢
        rwa [List.filter_cons, if_neg hk] at h
      rw [if_neg hk]
      refine ⟨(cells_none (n := n) (acc := acc) h').1, fun g => ?_⟩
      unfold pushCells
      rw [if_neg hk]
      exact (cells_none (n := n) (acc := acc) h').2 g
theorem cells1 : ∀ {names : List (Str × NameKind)} {x : Str}, cellNames names = [x] → (∀ n acc, cellsFrom n names acc = (x, n) :: acc) ∧ ∀ g, pushCells g names = g.push { cls := .type "cell", data := .cell none }
  | [], _, h => by cases h
  | (y, k) :: rest, x, h => by
    by_cases hk : (k == NameKind.cell) = true
    · have h' : y = x ∧ cellNames rest = [] := by
        unfold cellNames at h ⊢
        rw [List.filter_cons, if_pos hk, List.map_cons] at h
        injection h with h1 h2
        exact ⟨h1, h2⟩
      obtain ⟨rfl, h'⟩ := h'
      refine ⟨fun n acc => ?_, fun g => ?_⟩
      · unfold cellsFrom
        rw [if_pos hk]
        exact (cells_none h').1
      · unfold pushCells
        rw [if_pos hk]
        exact (cells_none (n := 0) (acc := []) h').2 _
    · have h' : cellNames rest = [x] := by
        unfold cellNames at h ⊢
        rwa [List.filter_cons, if_neg hk] at h
      refine ⟨fun n acc => ?_, fun g => ?_⟩
      · unfold cellsFrom
        rw [if_neg hk]
        exact (cells1 h').1 n acc
      · unfold pushCells
        rw [if_neg hk]
        exact (cells1 h').2 g
noncomputable def vEnd (n : Nat) (K : AV → AS → Prop) (S2 : AS) : Prop := vNs S2.hp[n + 1]? fun _ => K (.ref n) (S2.put (n + 1) .gone)
theorem vEnd_ok {n : Nat} {K : AV → AS → Prop} (h : vEnd n K S) : (∃ l, S.hp[n + 1]? = some (.ns l)) ∧ K (.ref n) (S.put (n + 1) .gone) := by
  obtain ⟨l, e, h1⟩ := vNs_ok h
  exact ⟨⟨l, e⟩, h1⟩
noncomputable def noCell (l : List Str) : Bool := l.isEmpty
noncomputable def str1 (l : List Str) : Option Str := match l with
  | [] => none
  | x :: r => match r with
    | [] => some x
    | _ :: _ => none
theorem str1_ok {l : List Str} {x : Str} (h : str1 l = some x) : l = [x] := by
  cases l with
  | nil => cases h
  | cons y r => cases r with
    | nil => cases h; rfl
    | cons _ _ => cases h
/-- a comprehension's own block -/
noncomputable def vBlk (V : VC) (scope : Scope) (P : List (Str × Nat) → Prop) : Prop := vOpt (cloA V.cells scope.names []) fun cl => vIf (fnScope scope) (vIf (locOk scope.names) (P cl))
/-- a list comprehension of one clause -/
noncomputable def vComp (o : Orc) (V : VC) (elt target iter : Expr) (ifs : List Expr) (scope : Scope) (S : AS) (K : AV → AS → Prop) : Prop := vIf (itOk iter) (vBlk V scope fun cl => match noCell (cellNames scope.names) with
  | true => vIt o V iter S fun kI S1 => vIf (itB (S1.hp[kI]?)) (o.C ⟨relK V.kinds scope.names, cl, some (S1.hp.length + 1), V.gb, V.fn⟩ elt target ifs kI S1.hp.length ((S1.new (.lst [])).new (.ns [])) (vEnd S1.hp.length K))
  | false => vOpt (str1 (cellNames scope.names)) fun x => vIt o V iter S fun kI S1 => vIf (itB (S1.hp[kI]?)) (o.C ⟨relK V.kinds scope.names, (x, S1.hp.length + 2) :: cl, some (S1.hp.length + 1), V.gb, V.fn⟩ elt target ifs kI S1.hp.length (((S1.new (.lst [])).new (.ns [])).new (.cell none)) (vEnd S1.hp.length K)))
theorem TrIt.mono {e : Expr} {K K' : Nat → AS → Prop} (h : TrIt X e env S K) (hk : ∀ b S, K b S → K' b S) : TrIt X e env S K' := fun θ s Q R p k => h θ s Q R p fun n S' θ' h' tk' I kb => k n S' θ' h' tk' I (hk n S' kb)
theorem TrCp.mono {e : Expr} {kI kD : Nat} {K K' : AS → Prop} (h : TrCp X e kI kD env S K) (hk : ∀ S, K S → K' S) : TrCp X e kI kD env S K' := fun θ s I D R Rl p h1 h2 k => h θ s I D R Rl p h1 h2 fun S' θ' h' tk' kb => k S' θ' h' tk' (hk S' kb)
theorem vComp_ok (ho : OOk o) (h : VEnv X V env) (Fm : Fram X env' (r + 1)) {elt target iter : Expr} {ifs : List Expr} {scope : Scope} {pos : Pos} {K : AV → AS → Prop} (hv : vComp o V elt target iter ifs scope S K) : Tr X (eval (.ListComp elt [⟨target, iter, ifs, 0⟩] scope pos) env) S K := by
  obtain ⟨hi, h1⟩ := vIf_ok hv
  obtain ⟨cl, hcl, h2⟩ := vOpt_ok h1
  obtain ⟨hf, h3⟩ := vIf_ok h2
  obtain ⟨hl, h4⟩ := vIf_ok h3
  obtain ⟨cl', hc', ha⟩ := clo_al h.cel scope.names hcl .nil
  cases hc : noCell (cellNames scope.names) with
  | true =>
    rw [hc] at h4
    refine T_comp (clo_ok hc') (fnScope_ok hf) (locOk_ok hl) (cells0 (List.isEmpty_iff.mp hc)) ((vIt_ok ho h Fm h4).mono fun kI S1 h5 => ?_) (it_ok hi env)
    obtain ⟨hb, h6⟩ := vIf_ok h5
    exact ⟨itB_ok hb, fun C θ₁ p hC => (ho.C (h.comp (fnScope_ok hf) ha p hC) (Fram.at Fm) h6).mono fun S2 h2 => vEnd_ok h2⟩
  | false =>
    rw [hc] at h4
    obtain ⟨x, hx, h5⟩ := vOpt_ok h4
    have hx := str1_ok hx
    refine T_compC (clo_ok hc') (fnScope_ok hf) (locOk_ok hl) (fun n => (cells1 hx).1 n _) (cells1 hx).2 ((vIt_ok ho h Fm h5).mono fun kI S1 h6 => ?_) (it_ok hi env)
    obtain ⟨hb, h7⟩ := vIf_ok h6
    exact ⟨itB_ok hb, fun C c θ₁ p hC hcc => (ho.C (h.compC (fnScope_ok hf) ha p hC hcc) (Fram.at Fm) h7).mono fun S2 h2 => vEnd_ok h2⟩
theorem TrCq.mono {e : Expr} {kI kD : Nat} {K K' : AS → Prop} (h : TrCq X e kI kD env S K) (hk : ∀ S, K S → K' S) : TrCq X e kI kD env S K' := fun θ s I D R Rl p h1 h2 k => h θ s I D R Rl p h1 h2 fun S' θ' h' tk' kb => k S' θ' h' tk' (hk S' kb)
/-- the inner, the outer loop of a comprehension of two clauses whose test never holds -/
noncomputable def vCq (o : Orc) (V : VC) (y : Str) (c : Expr) (kI : Nat) : Nat → AS → (AS → Prop) → Prop
  | 0, _, _ => False
  | n + 1, S, K => vOpt (liO S.hp[kI]?) fun d => vLst S.hp[d.1]? fun vs => match vs[d.2]? with
    | some v => vStore V y v (S.put kI (.li d.1 (d.2 + 1))) fun S2 => o.B V c S2 fun b S3 => b = false ∧ fcS S3 fun S3 => vCq o V y c kI n S3 K
    | none => K (S.put kI .gone)
noncomputable def vC2 (o : Orc) (V : VC) (x : Str) (i2 : Expr) (y : Str) (c : Expr) (kI : Nat) : Nat → AS → (AS → Prop) → Prop
  | 0, _, _ => False
  | n + 1, S, K => vOpt (liO S.hp[kI]?) fun d => vLst S.hp[d.1]? fun vs => match vs[d.2]? with
    | some v => vStore V x v (S.put kI (.li d.1 (d.2 + 1))) fun S2 => vIt o V i2 S2 fun kI2 S3 => vOpt (liO S3.hp[kI2]?) fun _ => vCq o V y c kI2 9 S3 fun S4 => fcS S4 fun S4 => vC2 o V x i2 y c kI n S4 K
    | none => K (S.put kI .gone)
theorem vCq_ok (ho : OOk o) (h : VEnv X V env) (Fm : Fram X env' (r + 1)) {elt t1 i1 i2 c : Expr} {y : Str} {py : Pos} {scope : Scope} {pos : Pos} {kI kD : Nat} : ∀ {n : Nat} {S : AS} {K : AS → Prop}, vCq o V y c kI n S K → TrCq X (.ListComp elt [⟨t1, i1, [], 0⟩, ⟨.Name y py, i2, [c], 0⟩] scope pos) kI kD env S K
  | 0, _, _, hv => hv.elim
  | n + 1, S, K, hv => by
    obtain ⟨⟨k, i⟩, e1, h1⟩ := vOpt_ok (show vOpt (liO S.hp[kI]?) _ from hv)
    obtain ⟨vs, e2, h2⟩ := vLst_ok h1
    have e1 := liO_ok e1
    cases e3 : vs[i]? with
    | some v =>
      simp only [e3] at h2
      exact TCq_list e1 e2 e3 (T_assignN ((vStore_ok h h2).mono fun _ S2 h3 => (ho.B h Fm h3).mono fun b S3 h4 => ⟨h4.1, vCq_ok ho h Fm (fcS_ok (P := fun S3 => vCq o V y c kI n S3 K) h4.2)⟩))
    | none => simp only [e3] at h2; exact TCq_list0 e1 e2 e3 h2
theorem vC2_ok (ho : OOk o) (h : VEnv X V env) (Fm : Fram X env' (r + 1)) {elt i1 i2 c : Expr} {x y : Str} {px py : Pos} {scope : Scope} {pos : Pos} {kI kD : Nat} (hi : itOk i2 = true) : ∀ {n : Nat} {S : AS} {K : AS → Prop}, vC2 o V x i2 y c kI n S K → TrCp X (.ListComp elt [⟨.Name x px, i1, [], 0⟩, ⟨.Name y py, i2, [c], 0⟩] scope pos) kI kD env S K
  | 0, _, _, hv => hv.elim
  | n + 1, S, K, hv => by
    obtain ⟨⟨k, i⟩, e1, h1⟩ := vOpt_ok (show vOpt (liO S.hp[kI]?) _ from hv)
    obtain ⟨vs, e2, h2⟩ := vLst_ok h1
    have e1 := liO_ok e1
    cases e3 : vs[i]? with
    | some v =>
      simp only [e3] at h2
      refine TC2_list e1 e2 e3 (T_assignN ((vStore_ok h h2).mono fun _ S2 h3 => (vIt_ok ho h Fm h3).mono fun kI2 S3 h4 => ?_)) (it_ok hi env)
      obtain ⟨d, e4, h5⟩ := vOpt_ok h4
      exact ⟨⟨_, _, liO_ok e4⟩, TrCq.mono (vCq_ok ho h Fm h5) fun S4 h6 => vC2_ok ho h Fm hi (fcS_ok (P := fun S4 => vC2 o V x i2 y c kI n S4 K) h6)⟩
    | none => simp only [e3] at h2; exact TC2_list0 e1 e2 e3 h2 (it_ok hi env)
noncomputable def vComp2 (o : Orc) (V : VC) (t1 i1 t2 i2 c : Expr) (scope : Scope) (S : AS) (K : AV → AS → Prop) : Prop := vIf (itOk i1) (vIf (itOk i2) (vOpt (nmOf t1) fun x => vOpt (nmOf t2) fun y => vBlk V scope fun cl => vIf (noCell (cellNames scope.names)) (vIt o V i1 S fun kI S1 => vIf (itB (S1.hp[kI]?)) (vC2 o ⟨relK V.kinds scope.names, cl, some (S1.hp.length + 1), V.gb, V.fn⟩ x i2 y c kI 9 ((S1.new (.lst [])).new (.ns [])) (vEnd S1.hp.length K)))))
theorem vComp2_ok (ho : OOk o) (h : VEnv X V env) (Fm : Fram X env' (r + 1)) {elt t1 i1 t2 i2 c : Expr} {scope : Scope} {pos : Pos} {K : AV → AS → Prop} (hv : vComp2 o V t1 i1 t2 i2 c scope S K) : Tr X (eval (.ListComp elt [⟨t1, i1, [], 0⟩, ⟨t2, i2, [c], 0⟩] scope pos) env) S K := by
  obtain ⟨hi, h1⟩ := vIf_ok hv
  obtain ⟨hi2, h2⟩ := vIf_ok h1
  obtain ⟨x, ex, h3⟩ := vOpt_ok h2
  obtain ⟨y, ey, h4⟩ := vOpt_ok h3
  obtain ⟨px, ex⟩ := nmOf_ok ex
  obtain ⟨py, ey⟩ := nmOf_ok ey
  obtain ⟨cl, hcl, h5⟩ := vOpt_ok h4
  obtain ⟨hf, h6⟩ := vIf_ok h5
  obtain ⟨hl, h7⟩ := vIf_ok h6
  obtain ⟨hc, h8⟩ := vIf_ok h7
  obtain ⟨cl', hc', ha⟩ := clo_al h.cel scope.names hcl .nil
  subst ex ey
  refine T_comp (clo_ok hc') (fnScope_ok hf) (locOk_ok hl) (cells0 (List.isEmpty_iff.mp hc)) ((vIt_ok ho h Fm h8).mono fun kI S1 h9 => ?_) (it_ok hi env)
  obtain ⟨hb, h10⟩ := vIf_ok h9
  exact ⟨itB_ok hb, fun C θ₁ p hC => (vC2_ok ho (h.comp (fnScope_ok hf) ha p hC) (Fram.at Fm) hi2 h10).mono fun S2 h2 => vEnd_ok h2⟩
/-- a comprehension bound to a local name -/
noncomputable def vCompA (o : Orc) (V : VC) (nm : Str) (elt target iter : Expr) (ifs : List Expr) (scope : Scope) (S : AS) (K : AS → Prop) : Prop := vIf (itOk iter) (vBlk V scope fun cl => vIf (noCell (cellNames scope.names)) (vIt o V iter S fun kI S1 => vIf (itB (S1.hp[kI]?)) (o.C ⟨relK V.kinds scope.names, cl, some (S1.hp.length + 1), V.gb, V.fn⟩ elt target ifs kI S1.hp.length ((S1.new (.lst [])).new (.ns [])) fun S2 => vStore V nm (.ref S1.hp.length) S2 fun S3 => vNs S3.hp[S1.hp.length + 1]? fun _ => K (S3.put (S1.hp.length + 1) .gone))))
theorem vCompA_ok (ho : OOk o) (h : VEnv X V env) (Fm : Fram X env' (r + 1)) {nm : Str} {py spos : Pos} {elt target iter : Expr} {ifs : List Expr} {scope : Scope} {pos : Pos} {K : AF → AS → Prop} (hsw : swapsWith (.ListComp elt [⟨target, iter, ifs, 0⟩] scope pos) (some (.Name nm py)) spos.line env = pure true) (hv : vCompA o V nm elt target iter ifs scope S fun S1 => K .next S1) : TrF X (exec (.Assign [.Name nm py] (.ListComp elt [⟨target, iter, ifs, 0⟩] scope pos) spos) env) S K := by
  obtain ⟨hi, h1⟩ := vIf_ok hv
  obtain ⟨cl, hcl, h2⟩ := vOpt_ok h1
  obtain ⟨hf, h3⟩ := vIf_ok h2
  obtain ⟨hl, h4⟩ := vIf_ok h3
  obtain ⟨hc, h5⟩ := vIf_ok h4
  obtain ⟨cl', hc', ha⟩ := clo_al h.cel scope.names hcl .nil
  refine T_assignComp hsw (clo_ok hc') (fnScope_ok hf) (locOk_ok hl) (cells0 (List.isEmpty_iff.mp hc)) ((vIt_ok ho h Fm h5).mono fun kI S1 h6 => ?_) (it_ok hi env)
  obtain ⟨hb, h7⟩ := vIf_ok h6
  exact ⟨itB_ok hb, fun C θ₁ p hC => (ho.C (h.comp (fnScope_ok hf) ha p hC) (Fram.at Fm) h7).mono fun S2 h8 => (vStore_ok h h8).mono fun _ S3 h9 => by
    obtain ⟨lc, e, h10⟩ := vNs_ok h9
    exact ⟨⟨lc, e⟩, h10⟩⟩
end
end
noncomputable section
section
variable {X : Cx} {V : VC} {env env' : Env} {r : Nat} {S : AS} {o : Orc}
noncomputable def vNeg (S : AS) (K : AV → AS → Prop) : AV → Prop
  | .int x => K (.int (-x)) S
  | _ => False
noncomputable def vAndV (o : Orc) (V : VC) (e2 : Expr) (S : AS) (K : AV → AS → Prop) : AV → Prop
  | .bool c => vBr c (o.E V e2 S K) (K (.bool c) S)
  | _ => False
noncomputable def vSlice (a b : AV) (S : AS) (K : AV → AS → Prop) : Prop := vRef a fun k => vInt b fun x => vLst S.hp[k]? fun vs => (0 ≤ x ∧ vs.length ≤ 1000) ∧ K (.ref S.hp.length) (S.new (.lst (vs.take x.toNat)))
noncomputable def vShort (vs : List AV) (P : Prop) : Prop := match decide (vs.length ≤ 9) with
  | true => P
  | false => False
theorem vShort_ok {vs : List AV} {P : Prop} (h : vShort vs P) : vs.length ≤ 9 ∧ P := by
  unfold vShort at h
  split at h
  · rename_i hd; exact ⟨of_decide_eq_true hd, h⟩
  · exact h.elim
noncomputable def vConst (c : Const) (S : AS) (K : AV → AS → Prop) : Prop := match c with
  | .int i => K (.int i) S
  | .none => K .nil S
  | .bool b => K (.bool b) S
  | .str x => ∀ t, K (.fn (.str x t)) S
  | _ => False
noncomputable def vSome (v : Option AV) (S : AS) (K : AV → AS → Prop) : Prop := match v with
  | some v => K v S
  | none => False
noncomputable def sole {α : Type} (l : List α) : Option α := match l with
  | [] => none
  | a :: r => match r with
    | [] => some a
    | _ :: _ => none
theorem sole_ok {α : Type} {l : List α} {a : α} (h : sole l = some a) : l = [a] := by
  cases l with
  | nil => exact nn_ss h
  | cons b r => cases r with
    | nil => cases h; rfl
    | cons _ _ => exact nn_ss h
noncomputable def slOf (e : Expr) : Option (Option Expr × Option Expr × Option Expr) := match e with
  | .Slice lo hi st _ => some (lo, hi, st)
  | _ => none
theorem slOf_ok {e : Expr} {c : Option Expr × Option Expr × Option Expr} (h : slOf e = some c) : ∃ p, e = .Slice c.1 c.2.1 c.2.2 p := by
  cases e with
  | Slice lo hi st p => cases h; exact ⟨p, rfl⟩
  | _ => exact nn_ss h
theorem vSome_ok {v : Option AV} {S : AS} {K : AV → AS → Prop} (h : vSome v S K) : ∃ a, v = some a ∧ K a S := by
  cases v with
  | some a => exact ⟨a, rfl, h⟩
  | none => exact h.elim
noncomputable def vSl (o : Orc) (V : VC) (l : Expr) (c : Option Expr × Option Expr × Option Expr) (S : AS) (K : AV → AS → Prop) : Prop := vIf (c.1.isNone && c.2.2.isNone) (vOpt c.2.1 fun h => o.E V l S fun a S1 => o.E V h S1 fun b S2 => vSlice a b S2 K)
noncomputable def vSub (o : Orc) (V : VC) (l r : Expr) (S : AS) (K : AV → AS → Prop) : Prop := match slOf r with
  | none => o.E V l S fun a S1 => o.E V r S1 fun b S2 => vItem r a b S2 K
  | some c => vSl o V l c S K
noncomputable def vUn (o : Orc) (V : VC) (op : UnaryOp) (a : Expr) (S : AS) (K : AV → AS → Prop) : Prop := match op with
  | .USub => o.E V a S fun v S1 => vNeg S1 K v
  | _ => False
noncomputable def vCmpE (o : Orc) (V : VC) (l : Expr) (ops : List CmpOp) (rs : List Expr) (S : AS) (K : AV → AS → Prop) : Prop := vOpt (sole ops) fun op => vOpt (sole rs) fun r => vIf (plainE r) (o.E V l S fun a S1 => o.E V r S1 fun b S2 => vCmp op a b S2 K)
noncomputable def vBoolV (o : Orc) (V : VC) (op : BoolOp) (es : List Expr) (S : AS) (K : AV → AS → Prop) : Prop := match op with
  | .And => match es with
    | [] => False
    | e1 :: r => vOpt (sole r) fun e2 => o.E V e1 S fun v S1 => vAndV o V e2 S1 K v
  | .Or => False
noncomputable def vNoKw {α : Type} (ks : List α) (P : Prop) : Prop := match ks with
  | [] => P
  | _ => False
noncomputable def vGen2 (o : Orc) (V : VC) (g1 g2 : Comprehension) (scope : Scope) (S : AS) (K : AV → AS → Prop) : Prop := vIf (g1.is_async == 0 && g1.ifs.isEmpty && g2.is_async == 0) (match g2.ifs with
  | [] => False
  | c :: cs => match cs with
    | [] => vComp2 o V g1.target g1.iter g2.target g2.iter c scope S K
    | _ :: _ => False)
noncomputable def vGen (o : Orc) (V : VC) (elt : Expr) (gs : List Comprehension) (scope : Scope) (S : AS) (K : AV → AS → Prop) : Prop := match gs with
  | [] => False
  | g :: gs => match gs with
    | [] => vIf (g.is_async == 0) (vComp o V elt g.target g.iter g.ifs scope S K)
    | g2 :: gs => match gs with
      | [] => vGen2 o V g g2 scope S K
      | _ :: _ => False
/-- an expression -/
noncomputable def vExp (o : Orc) (V : VC) (e : Expr) (S : AS) (K : AV → AS → Prop) : Prop := match e with
  | .Constant c _ _ => vConst c S K
  | .Name x _ => vSome (V.ec.look x S) S K
  | .BinOp l op r _ => o.E V l S fun a S1 => o.E V r S1 fun b S2 => vBin op a b S2 K
  | .UnaryOp op a _ => vUn o V op a S K
  | .Subscript l r _ => vSub o V l r S K
  | .Compare l ops rs _ => vCmpE o V l ops rs S K
  | .Tuple es _ _ => vL o.E V es S fun vs S1 => vShort vs (K (.ref S1.hp.length) (S1.new (.tup vs)))
  | .List es _ => vL o.E V es S fun vs S1 => vShort vs (K (.ref S1.hp.length) (S1.new (.lst vs)))
  | .IfExp t a b _ => o.B V t S fun c S1 => vBr c (o.E V a S1 K) (o.E V b S1 K)
  | .BoolOp op es _ => vBoolV o V op es S K
  | .Call f as ks p => vNoKw ks (vCall o V p f as S K)
  | .ListComp elt gs scope _ => vGen o V elt gs scope S K
  | _ => False
section
variable (ho : OOk o) (h : VEnv X V env) (Fm : Fram X env' (r + 1))
include ho h Fm
theorem vSub_ok {l r : Expr} {p : Pos} {K : AV → AS → Prop} (hv : vSub o V l r S K) : Tr X (eval (.Subscript l r p) env) S K := by
  unfold vSub at hv
  cases hS : slOf r with
  | none =>
    rw [hS] at hv
    exact T_subs ((ho.E h Fm hv).mono fun a S1 h1 => (ho.E h Fm h1).mono fun b S2 h2 => vItem_ok h2)
  | some c =>
    rw [hS] at hv
    obtain ⟨q, hq⟩ := slOf_ok hS
    obtain ⟨lo, hi, st⟩ := c
    obtain ⟨h0, hv⟩ := vIf_ok hv
    obtain ⟨hi', e1, hv⟩ := vOpt_ok hv
    rw [Bool.and_eq_true] at h0
    rw [hq, Option.isNone_iff_eq_none.mp h0.1, Option.isNone_iff_eq_none.mp h0.2, e1]
    refine T_sliceTo ((ho.E h Fm hv).mono fun a S1 h1 => (ho.E h Fm h1).mono fun b S2 h2 => ?_)
    obtain ⟨k, e2, h3⟩ := vRef_ok h2
    obtain ⟨x, e3, h4⟩ := vInt_ok h3
    obtain ⟨vs, e4, h5⟩ := vLst_ok h4
    exact ⟨k, vs, x, e2, e3, e4, h5.1.1, h5.1.2, h5.2⟩
theorem vCmpE_ok {l : Expr} {ops : List CmpOp} {rs : List Expr} {p : Pos} {K : AV → AS → Prop} (hv : vCmpE o V l ops rs S K) : Tr X (eval (.Compare l ops rs p) env) S K := by
  obtain ⟨op, e1, hv⟩ := vOpt_ok hv
  obtain ⟨r, e2, hv⟩ := vOpt_ok hv
  obtain ⟨hp, hv⟩ := vIf_ok hv
  rw [sole_ok e1, sole_ok e2]
  exact T_cmp ((ho.E h Fm hv).mono fun a S1 h1 => (ho.E h Fm h1).mono fun b S2 h2 => vCmp_ok Fm h2) (plain_mark hp)
theorem vBoolV_ok {op : BoolOp} {es : List Expr} {p : Pos} {K : AV → AS → Prop} (hv : vBoolV o V op es S K) : Tr X (eval (.BoolOp op es p) env) S K := by
  cases op with
  | Or => exact hv.elim
  | And => cases es with
    | nil => exact hv.elim
    | cons e1 r =>
      obtain ⟨e2, e0, hv⟩ := vOpt_ok (show vOpt (sole r) _ from hv)
      rw [sole_ok e0]
      refine T_and ((ho.E h Fm hv).mono fun v S1 h1 => ?_)
      cases v with
      | bool c => exact T_truthy ⟨fun e => ho.E h Fm ((vBr_ok h1).1 e), (vBr_ok h1).2⟩
      | _ => exact h1.elim
theorem vGen_ok {elt : Expr} {gs : List Comprehension} {scope : Scope} {p : Pos} {K : AV → AS → Prop} (hv : vGen o V elt gs scope S K) : Tr X (eval (.ListComp elt gs scope p) env) S K := by
  cases gs with
  | nil => exact hv.elim
  | cons g gs =>
    obtain ⟨target, iter, ifs, as⟩ := g
    cases gs with
    | nil =>
      obtain ⟨e0, h1⟩ := vIf_ok (show vIf (as == 0) _ from hv)
      rw [beq_iff_eq.mp e0]
      exact vComp_ok ho h Fm h1
    | cons g2 gs => cases gs with
      | cons _ _ => exact hv.elim
      | nil =>
        obtain ⟨t2, i2, ifs2, as2⟩ := g2
        obtain ⟨e0, h1⟩ := vIf_ok (show vIf (as == 0 && ifs.isEmpty && as2 == 0) _ from hv)
        rw [Bool.and_eq_true, Bool.and_eq_true] at e0
        rw [beq_iff_eq.mp e0.1.1, beq_iff_eq.mp e0.2, List.isEmpty_iff.mp e0.1.2]
        cases ifs2 with
        | nil => exact h1.elim
        | cons c cs => cases cs with
          | nil => exact vComp2_ok ho h Fm h1
          | cons _ _ => exact h1.elim
theorem vConst_ok {c : Const} {j : Nat} {p : Pos} {K : AV → AS → Prop} (hv : vConst c S K) : Tr X (eval (.Constant c j p) env) S K := by
  cases c with
  | int _ => exact T_int hv
  | none => exact T_none hv
  | bool _ => exact T_bool hv
  | str _ => exact T_str hv
  | _ => exact hv.elim
theorem vUn_ok {op : UnaryOp} {a : Expr} {p : Pos} {K : AV → AS → Prop} (hv : vUn o V op a S K) : Tr X (eval (.UnaryOp op a p) env) S K := by
  cases op with
  | USub =>
    refine T_un ((ho.E h Fm hv).mono fun a S1 h1 => ?_)
    cases a with
    | int _ => exact T_neg h1
    | _ => exact h1.elim
  | _ => exact hv.elim
theorem vExp_ok {e : Expr} {K : AV → AS → Prop} (hv : vExp o V e S K) : Tr X (eval e env) S K := by
  cases e with
  | Constant c j p => exact vConst_ok ho h Fm hv
  | Name x p =>
    obtain ⟨v, hx, hv⟩ := vSome_ok hv
    exact h.ec.name hx hv
  | BinOp l op r p => exact T_bin ((ho.E h Fm hv).mono fun a S1 h1 => (ho.E h Fm h1).mono fun b S2 h2 => vBin_ok h2)
  | UnaryOp op a p => exact vUn_ok ho h Fm hv
  | Subscript l r p => exact vSub_ok ho h Fm hv
  | Compare l ops rs p => exact vCmpE_ok ho h Fm hv
  | Tuple es j p => exact T_tuple ((vL_ok ho h Fm hv).mono fun vs S1 h1 => vShort_ok h1)
  | List es p => exact T_list ((vL_ok ho h Fm hv).mono fun vs S1 h1 => vShort_ok h1)
  | IfExp t a b p => exact T_ifexp ((ho.B h Fm hv).mono fun c S1 h1 => ⟨fun e => ho.E h Fm ((vBr_ok h1).1 e), fun e => ho.E h Fm ((vBr_ok h1).2 e)⟩)
  | BoolOp op es p => exact vBoolV_ok ho h Fm hv
  | Call f as ks p =>
    cases ks with
    | nil => exact vCall_ok ho h Fm hv
    | cons _ _ => exact hv.elim
  | ListComp elt gs scope p => exact vGen_ok ho h Fm hv
  | _ => exact hv.elim
end
end
end
noncomputable section
section
variable {X : Cx} {V : VC} {env env' : Env} {r : Nat} {S : AS} {o : Orc}
noncomputable def noComp : Expr → Bool
  | .ListComp .. => false | .SetComp .. => false | .DictComp .. => false | _ => true
theorem sw_none {e : Expr} (h : noComp e = true) (t : Option Expr) (n : Nat) (env : Env) : swapsWith e t n env = pure false := by
  cases e <;> first | rfl | first | exact ff_tt h | exact nn_ss h | cases h
noncomputable def vSet (S : AS) (K : AS → Prop) (v : AV) : AV → AV → Prop
  | .ref k, .int x => match S.hp[k]? with
    | some (.lst vs) => match decide (0 ≤ x ∧ x < 2 ^ 63 ∧ x.toNat < vs.length) with
      | true => K (S.put k (.lst (vs.set x.toNat v)))
      | false => False
    | _ => False
  | _, _ => False
theorem vSet_ok {K : AS → Prop} {v a i : AV} (h : vSet S K v a i) : Tr3 X setItem a i v S K := by
  unfold vSet at h
  split at h
  · split at h
    · rename_i e
      split at h
      · rename_i hd
        obtain ⟨h0, h1, h2⟩ := of_decide_eq_true hd
        exact T_setItem e h0 h1 h2 h
      · exact h.elim
    · exact h.elim
  · exact h.elim
/-- targets of a tuple, in their order -/
noncomputable def vIn (o : Orc) (V : VC) : List Expr → List AV → AS → (AS → Prop) → Prop
  | [], [], S, K => K S
  | .Name x _ :: ts, v :: vs, S, K => vStore V x v S fun S1 => vIn o V ts vs S1 K
  | .Subscript a i _ :: ts, v :: vs, S, K => o.E V a S fun av S1 => o.E V i S1 fun iv S2 => vSet S2 (fun S3 => vIn o V ts vs S3 K) v av iv
  | _, _, _, _ => False
noncomputable def tgtOk : Expr → Bool
  | .Name .. => true | .Subscript .. => true | _ => false
theorem tgt_each : ∀ {ts : List Expr}, ts.all tgtOk = true → assignEach ts env = ts.map fun t => (false, assign t env)
  | [], _ => rfl
  | t :: ts, h => by
    simp only [List.all_cons, Bool.and_eq_true] at h
    have ih := tgt_each h.2
    cases t <;> first | (show (_ :: assignEach ts env) = _; rw [ih]; rfl) | first | exact ff_tt h.1 | exact nn_ss h.1 | cases h.1
theorem vIn_ok (ho : OOk o) (h : VEnv X V env) (Fm : Fram X env' (r + 1)) : ∀ {ts : List Expr} {vs : List AV} {S : AS} {K : AS → Prop}, vIn o V ts vs S K → TrIn X (ts.map fun t => assign t env) vs S K
  | [], [], S, K, hv => TI_nil hv
  | [], _ :: _, S, K, hv => hv.elim
  | t :: ts, [], S, K, hv => by cases t <;> exact hv.elim
  | t :: ts, v :: vs, S, K, hv => by
    cases t with
    | Name x p => exact TI_cons (T_assignN ((vStore_ok h hv).mono fun _ S1 h1 => vIn_ok ho h Fm h1))
    | Subscript a i p =>
      exact TI_cons (T_kas ((ho.E h Fm hv).mono fun av S1 h1 => (ho.E h Fm h1).mono fun iv S2 h2 => by
        have := vSet_ok (X := X) h2
        exact fun θ s E Q x y z R p v1 v2 v3 k => this θ s E Q x y z R p v1 v2 v3 fun S' θ' h' tk' kb R' p' => k S' θ' h' tk' (vIn_ok ho h Fm kb) R' p'))
    | _ => exact hv.elim
theorem sw_sub (e a i : Expr) (ap : Pos) (n : Nat) (env : Env) : swapsWith e (some (.Subscript a i ap)) n env = pure false := by
  cases e <;> rfl
theorem sw_tup (e : Expr) (ts : List Expr) (j : Nat) (tp : Pos) (n : Nat) (env : Env) : swapsWithSole [.Tuple ts j tp] e n env = pure false := by
  cases e <;> rfl
theorem VEnv.block (h : VEnv X V env) : env.blockKind = .function := by
  unfold Env.blockKind; rw [h.kind]; rfl
noncomputable def swB (kinds : List (Str × NameKind)) (e : Expr) (x : Str) : Bool := match e with
  | .ListComp .. => kinds.lookup x != some .local
  | .SetComp .. => false | .DictComp .. => false | _ => true
theorem swB_ok (h : VEnv X V env) {e : Expr} {x : Str} {xp : Pos} {n : Nat} (hb : swB V.kinds e x = true) : swapsWith e (some (.Name x xp)) n env = pure false := by
  cases e <;> first | rfl | first | exact ff_tt hb | exact nn_ss hb | cases hb | skip
  have hk : (env.kindOf x == some .local) = false := by
    have : env.kindOf x = V.kinds.lookup x := by unfold Env.kindOf; rw [h.nam]
    rw [this]
    have hb' : (V.kinds.lookup x != some .local) = true := hb
    simpa using hb'
  unfold swapsWith
  simp only [hk, Bool.and_false, Bool.false_and]
/-- how a display is stored to the names of a display -/
noncomputable def swS (kinds : List (Str × NameKind)) (ts vs : List Expr) : Option (Option (List Str)) :=
  if (!(ts.length == 2 || ts.length == 3) || vs.length != ts.length) = true then some none else
  if (vs.any fun | .Starred .. => true | _ => false) = true then some none else
  let line := (ts.head?.map (·.pos.line)).getD 0
  let names := ts.filterMap fun
    | .Name id pos => if (kinds.lookup id == some .local && pos.line == line) = true then some id else none
    | _ => none
  if (names.length != ts.length || names.eraseDups.length != names.length) = true then some none else
  if (vs.all (foldedForSure 8)) = true then some none else
  if (vs.all (constantsAlone 8)) = true then none else some (some names)
theorem swS_ok (h : VEnv X V env) {ts vs : List Expr} {j k : Nat} {tp vp : Pos} {r : Option (List Str)} (e : swS V.kinds ts vs = some r) : swappedStores [.Tuple ts j tp] (.Tuple vs k vp) env = pure r := by
  have hk : ∀ x, env.kindOf x = V.kinds.lookup x := fun x => by unfold Env.kindOf; rw [h.nam]
  unfold swS at e
  unfold swappedStores
  have hb : (env.blockKind != ScopeKind.function) = false := by rw [h.block]; rfl
  simp only [hk, hb, Bool.or_false]
  split at e
  · rename_i c; cases e; exact if_pos c
  · rename_i c
    refine (if_neg c).trans ?_
    split at e
    · rename_i c2; cases e; exact if_pos c2
    · rename_i c2
      refine (if_neg c2).trans ?_
      dsimp only at e
      split at e
      · rename_i c3; cases e; exact if_pos c3
      · rename_i c3
        refine (if_neg c3).trans ?_
        split at e
        · rename_i c4; cases e; exact if_pos c4
        · rename_i c4
          refine (if_neg c4).trans ?_
          split at e
          · cases e
          · rename_i c5; cases e; exact if_neg c5
noncomputable def stS (kinds : List (Str × NameKind)) (ts : List Expr) (e : Expr) : Option (Option (List Str)) := match e with
  | .Tuple vs _ _ => swS kinds ts vs
  | _ => some none
theorem stS_ok (h : VEnv X V env) {ts : List Expr} {e : Expr} {j : Nat} {tp : Pos} {r : Option (List Str)} (hs : stS V.kinds ts e = some r) : swappedStores [.Tuple ts j tp] e env = pure r := by
  cases e <;> first | exact swS_ok h hs | exact Option.some.inj hs ▸ rfl
noncomputable def vTup (S : AS) (K : List AV → Prop) : AV → Prop
  | .ref k => match S.hp[k]? with
    | some (.tup vs) => K vs
    | _ => False
  | _ => False
noncomputable def vBind (V : VC) : List Str → List AV → AS → (AS → Prop) → Prop
  | [], [], S, K => K S
  | x :: xs, v :: vs, S, K => vStore V x v S fun S1 => vBind V xs vs S1 K
  | _, _, _, _ => False
theorem vBind_ok (h : VEnv X V env) : ∀ {xs : List Str} {vs : List AV} {S : AS} {K : AS → Prop}, vBind V xs vs S K → TrIn X (xs.map fun n => bindName env n) vs S K
  | [], [], S, K, hv => TI_nil hv
  | [], _ :: _, S, K, hv => hv.elim
  | _ :: _, [], S, K, hv => hv.elim
  | x :: xs, v :: vs, S, K, hv => TI_cons (T_bindN ((vStore_ok h hv).mono fun _ S1 h1 => vBind_ok h h1))
/-- a comprehension bound to a name of the block's own -/
noncomputable def vAsgG (o : Orc) (V : VC) (x : Str) (elt : Expr) (gs : List Comprehension) (scope : Scope) (S : AS) (K : AS → Prop) : Prop := match gs with
  | [] => False
  | g :: gs => match gs with
    | [] => vIf (g.is_async == 0) (vCompA o V x elt g.target g.iter g.ifs scope S K)
    | _ :: _ => False
noncomputable def swC (kinds : List (Str × NameKind)) (x : Str) (xp p : Pos) (scope : Scope) : Bool := (kinds.lookup x == some .local) && (xp.line == p.line) && !(scope.names.any fun (n, k) => n == x && (k == .local || k == .cell))
theorem swC_ok (h : VEnv X V env) {x : Str} {xp p : Pos} {scope : Scope} {elt : Expr} {gs : List Comprehension} {n : Nat} (hb : swC V.kinds x xp p scope = true) : swapsWith (.ListComp elt gs scope p) (some (.Name x xp)) n env = pure true := by
  have hk : env.kindOf x = V.kinds.lookup x := by unfold Env.kindOf; rw [h.nam]
  unfold swC at hb
  rw [Bool.and_eq_true, Bool.and_eq_true] at hb
  have hbk : (env.blockKind == ScopeKind.function) = true := by rw [h.block]; rfl
  have hl : (xp.line == (Expr.ListComp elt gs scope p).pos.line) = true := hb.1.2
  unfold swapsWith
  simp only [hk, hb.1.1, hb.2, hbk, hl, Bool.and_true, Bool.true_and]
noncomputable def vAsgC (o : Orc) (V : VC) (x : Str) (xp : Pos) (e : Expr) (S : AS) (K : AS → Prop) : Prop := match e with
  | .ListComp elt gs scope p => vIf (swC V.kinds x xp p scope) (vAsgG o V x elt gs scope S K)
  | _ => False
noncomputable def vAsg1 (o : Orc) (V : VC) (e : Expr) (names : List Str) (S : AS) (K : AS → Prop) : Prop := o.E V e S fun v S1 => vTup S1 (fun vs => vDec (names.length = vs.length) (vBind V names.reverse vs.reverse S1 K)) v
noncomputable def vAsg2 (o : Orc) (V : VC) (ts : List Expr) (e : Expr) (S : AS) (K : AS → Prop) : Prop := o.E V e S fun v S1 => vTup S1 (fun vs => vDec (ts.length = vs.length) (vIf (ts.all tgtOk) (vIn o V ts vs S1 K))) v
noncomputable def vAsgQ (o : Orc) (V : VC) (ts : List Expr) (e : Expr) (S : AS) (K : AS → Prop) (q : Option (List Str)) : Prop := match q with
  | some names => vAsg1 o V e names S K
  | none => vAsg2 o V ts e S K
noncomputable def vAsgT (o : Orc) (V : VC) (ts : List Expr) (e : Expr) (S : AS) (K : AS → Prop) : Prop := vOpt (stS V.kinds ts e) fun q => vAsgQ o V ts e S K q
noncomputable def vAsg (o : Orc) (V : VC) (t e : Expr) (S : AS) (K : AS → Prop) : Prop := match t with
  | .Name x xp => match swB V.kinds e x with
    | true => o.E V e S fun v S1 => vStore V x v S1 K
    | false => vAsgC o V x xp e S K
  | .Subscript a i _ => o.E V e S fun v S1 => o.E V a S1 fun av S2 => o.E V i S2 fun iv S3 => vSet S3 K v av iv
  | .Tuple ts _ _ => vAsgT o V ts e S K
  | _ => False
theorem vTup_ok {K : List AV → Prop} {v : AV} (h : vTup S K v) : ∃ k vs, v = .ref k ∧ S.hp[k]? = some (.tup vs) ∧ K vs := by
  cases v with
  | ref k =>
    have h : (match S.hp[k]? with | some (.tup vs) => K vs | _ => False) := h
    cases hk : S.hp[k]? with
    | none => rw [hk] at h; exact h.elim
    | some ao =>
      rw [hk] at h
      cases ao with
      | tup vs => exact ⟨k, vs, rfl, hk, h⟩
      | _ => exact h.elim
  | _ => exact h.elim
theorem vAsgT_ok (ho : OOk o) (h : VEnv X V env) (Fm : Fram X env' (r + 1)) {ts : List Expr} {e : Expr} {j : Nat} {tp pos : Pos} {K : AF → AS → Prop} (hv : vAsgT o V ts e S fun S1 => K .next S1) : TrF X (exec (.Assign [.Tuple ts j tp] e pos) env) S K := by
  obtain ⟨q, hs, hv⟩ := vOpt_ok hv
  cases q with
  | some names =>
    refine T_assignSw ((ho.E h Fm hv).mono fun v S1 h1 => ?_) (sw_tup ..) (stS_ok h hs)
    obtain ⟨k, vs, e0, e1, h2⟩ := vTup_ok h1
    obtain ⟨hd, h3⟩ := vDec_ok h2
    exact ⟨k, vs, e0, e1, hd, vBind_ok h h3⟩
  | none =>
    refine T_assignTup ((ho.E h Fm hv).mono fun v S1 h1 => ?_) (sw_tup ..) (stS_ok h hs)
    obtain ⟨k, vs, e0, e1, h2⟩ := vTup_ok h1
    obtain ⟨hl, h3⟩ := vDec_ok h2
    obtain ⟨ht, h4⟩ := vIf_ok h3
    subst e0
    have he := tgt_each (env := env) ht
    refine T_unpack e1 ?_ (by rw [he, List.length_map]; exact hl) (by rw [he]; simp [List.findIdx?_map])
    rw [he, List.map_map]
    exact vIn_ok ho h Fm h4
theorem vAsgC_ok (ho : OOk o) (h : VEnv X V env) (Fm : Fram X env' (r + 1)) {x : Str} {xp pos : Pos} {e : Expr} {K : AF → AS → Prop} (hv : vAsgC o V x xp e S fun S1 => K .next S1) : TrF X (exec (.Assign [.Name x xp] e pos) env) S K := by
  cases e with
  | ListComp elt gs scope p =>
    obtain ⟨hw, h1⟩ := vIf_ok (show vIf (swC V.kinds x xp p scope) _ from hv)
    cases gs with
    | nil => exact h1.elim
    | cons g gs => cases gs with
      | cons _ _ => exact h1.elim
      | nil =>
        obtain ⟨target, iter, ifs, as⟩ := g
        obtain ⟨e0, h2⟩ := vIf_ok (show vIf (as == 0) _ from h1)
        cases beq_iff_eq.mp e0
        exact vCompA_ok ho h Fm (swC_ok h hw) h2
  | _ => exact hv.elim
theorem vAsg_ok (ho : OOk o) (h : VEnv X V env) (Fm : Fram X env' (r + 1)) {t e : Expr} {pos : Pos} {K : AF → AS → Prop} (hv : vAsg o V t e S fun S1 => K .next S1) : TrF X (exec (.Assign [t] e pos) env) S K := by
  cases t with
  | Name x xp =>
    have hv : (match swB V.kinds e x with | true => o.E V e S fun v S1 => vStore V x v S1 fun S1 => K .next S1 | false => vAsgC o V x xp e S fun S1 => K .next S1) := hv
    cases hb : swB V.kinds e x with
    | true => rw [hb] at hv; exact T_assign ((ho.E h Fm hv).mono fun v S1 h1 => vStore_ok h h1) (swB_ok h hb)
    | false => rw [hb] at hv; exact vAsgC_ok ho h Fm hv
  | Subscript a i ap => exact T_assignSub ((ho.E h Fm hv).mono fun v S1 h1 => (ho.E h Fm h1).mono fun av S2 h2 => (ho.E h Fm h2).mono fun iv S3 h3 => vSet_ok h3) (sw_sub ..)
  | Tuple ts j tp => exact vAsgT_ok ho h Fm hv
  | _ => exact hv.elim
noncomputable def vOne (ts : List Expr) (P : Expr → Prop) : Prop := match ts with
  | [t] => P t
  | _ => False
noncomputable def vRet (e : Option Expr) (P : Expr → Prop) : Prop := match e with
  | some e => P e
  | none => False
noncomputable def vForS (o : Orc) (V : VC) (t iter : Expr) (body : List Stmt) (S : AS) (K : AF → AS → Prop) : Prop := match itOk iter with
  | true => vIt o V iter S fun kI S1 => o.F V t kI body S1 K
  | false => False
/-- a statement -/
noncomputable def vStmt (o : Orc) (V : VC) (st : Stmt) (S : AS) (K : AF → AS → Prop) : Prop := match st with
  | .Assign ts e _ => vOne ts fun t => vAsg o V t e S fun S1 => K .next S1
  | .If t b1 b2 _ => o.B V t S fun b S1 => vBr b (o.S V b1 S1 K) (o.S V b2 S1 K)
  | .Return e _ => vRet e fun e => o.E V e S fun v S1 => K (.ret v) S1
  | .Continue _ => K .cont S
  | .Expr e _ => match noComp e with
    | true => o.E V e S fun _ S1 => K .next S1
    | false => False
  | .For t iter body orelse _ => vNoKw orelse (vForS o V t iter body S K)
  | _ => False
theorem vStmt_ok (ho : OOk o) (h : VEnv X V env) (Fm : Fram X env' (r + 1)) {st : Stmt} {K : AF → AS → Prop} (hv : vStmt o V st S K) : TrF X (exec st env) S K := by
  cases st with
  | Assign ts e pos =>
    match ts, hv with
    | [t], hv => exact vAsg_ok ho h Fm hv
  | If t b1 b2 p => exact TF_if ((ho.B h Fm hv).mono fun b S1 h1 => ⟨fun e => ho.S h Fm ((vBr_ok h1).1 e), fun e => ho.S h Fm ((vBr_ok h1).2 e)⟩)
  | Return e p =>
    cases e with
    | some e => exact TF_ret (ho.E h Fm hv)
    | none => exact hv.elim
  | Continue p => exact TF_cont hv
  | Expr e p =>
    have hv : (match noComp e with | true => o.E V e S fun _ S1 => K .next S1 | false => False) := hv
    cases hn : noComp e with
    | true => rw [hn] at hv; exact TF_expr (ho.E h Fm hv) (by unfold interactive; rw [h.kind]; rfl) (sw_none hn _ _ _)
    | false => rw [hn] at hv; exact hv.elim
  | For t iter body orelse p =>
    cases orelse with
    | nil =>
      have hv : vForS o V t iter body S K := hv
      unfold vForS at hv
      cases hi : itOk iter with
      | true => rw [hi] at hv; exact TF_for ((vIt_ok ho h Fm hv).mono fun kI S1 h1 => ho.F h Fm h1) (it_ok hi env)
      | false => rw [hi] at hv; exact hv.elim
    | cons _ _ => exact hv.elim
  | _ => exact hv.elim
noncomputable def vCont (o : Orc) (V : VC) (rest : AS → Prop) (K : AF → AS → Prop) : AF → AS → Prop
  | .next, S => fcS S rest
  | f, S => K f S
noncomputable def vStmts (o : Orc) (V : VC) : List Stmt → AS → (AF → AS → Prop) → Prop
  | [], S, K => K .next S
  | st :: rest, S, K => vStmt o V st S (vCont o V (fun S1 => vStmts o V rest S1 K) K)
theorem vStmts_ok (ho : OOk o) (h : VEnv X V env) (Fm : Fram X env' (r + 1)) : ∀ {b : List Stmt} {S : AS} {K : AF → AS → Prop}, vStmts o V b S K → TrF X (execs b env) S K
  | [], S, K, hv => TF_nil hv
  | st :: rest, S, K, hv => TF_cons ((vStmt_ok ho h Fm hv).mono fun f S1 h1 => by
    cases f with
    | next => exact vStmts_ok ho h Fm (fcS_ok (show fcS S1 fun S1 => vStmts o V _ S1 K from h1))
    | brk => exact h1
    | cont => exact h1
    | ret v => exact h1)
noncomputable def vLoop (next : AS → Prop) (K : AF → AS → Prop) : AF → AS → Prop
  | .next, S => fcS S next
  | .cont, S => fcS S next
  | .brk, S => K .next S
  | .ret v, S => K (.ret v) S
/-- the loop of a for -/
noncomputable def vForT (o : Orc) (V : VC) (x : Str) (p : Pos) (kI : Nat) (body : List Stmt) (K : AF → AS → Prop) (v : AV) (S1 : AS) : Prop := vStore V x v S1 fun S2 => o.S V body S2 (vLoop (fun S3 => o.F V (.Name x p) kI body S3 K) K)
noncomputable def vForN (o : Orc) (V : VC) (x : Str) (p : Pos) (kI : Nat) (body : List Stmt) (S : AS) (K : AF → AS → Prop) (ao : AO) : Prop := match ao with
  | .li k i => vLst S.hp[k]? fun vs => match vs[i]? with
    | some v => vForT o V x p kI body K v (S.put kI (.li k (i + 1)))
    | none => K .next (S.put kI .gone)
  | .ti k i => vTupl S.hp[k]? fun vs => match vs[i]? with
    | some v => vForT o V x p kI body K v (S.put kI (.ti k (i + 1)))
    | none => K .next (S.put kI .gone)
  | .ri y n => match decide (0 < n) with
    | true => vForT o V x p kI body K (.int y) (S.put kI (.ri (y + 1) (n - 1)))
    | false => K .next (S.put kI .gone)
  | _ => False
noncomputable def vFor (o : Orc) (V : VC) (target : Expr) (kI : Nat) (body : List Stmt) (S : AS) (K : AF → AS → Prop) : Prop := vOpt S.hp[kI]? fun ao => match target with
  | .Name x p => vForN o V x p kI body S K ao
  | _ => False
theorem vLoop_ok (ho : OOk o) (h : VEnv X V env) (Fm : Fram X env' (r + 1)) {x : Str} {px : Pos} {kI : Nat} {body : List Stmt} {K : AF → AS → Prop} {v : AV} {S1 : AS} (hv : vForT o V x px kI body K v S1) :
    Tr1 X (fun _ _ _ => True) (storeName env x) v S1 (fun (_ : Unit) S2 => TrF X (execs body env) S2 fun f S3 => match f with | .next | .cont => TrFor X (.Name x px) kI body env S3 K | .brk => K .next S3 | .ret v => K (.ret v) S3) :=
  (vStore_ok h hv).mono fun _ S2 h2 => (ho.S h Fm h2).mono fun f S3 h3 => by
    cases f with
    | next => exact ho.F h Fm (fcS_ok (show fcS S3 fun S3 => o.F V (.Name x px) kI body S3 K from h3))
    | cont => exact ho.F h Fm (fcS_ok (show fcS S3 fun S3 => o.F V (.Name x px) kI body S3 K from h3))
    | brk => exact h3
    | ret v => exact h3
theorem vFor_ok (ho : OOk o) (h : VEnv X V env) (Fm : Fram X env' (r + 1)) {target : Expr} {kI : Nat} {body : List Stmt} {K : AF → AS → Prop} (hv : vFor o V target kI body S K) : TrFor X target kI body env S K := by
  obtain ⟨ao, e1, hv⟩ := vOpt_ok hv
  cases target with
  | Name x p => cases ao with
    | li k i =>
      obtain ⟨vs, e2, h3⟩ := vLst_ok hv
      cases e3 : vs[i]? with
      | some v => rw [e3] at h3; exact TFor_list e1 e2 e3 (vLoop_ok ho h Fm h3)
      | none => rw [e3] at h3; exact TFor_list0 e1 e2 e3 h3
    | ti k i =>
      obtain ⟨vs, e2, h3⟩ := vTupl_ok hv
      cases e3 : vs[i]? with
      | some v => rw [e3] at h3; exact TFor_tup e1 e2 e3 (vLoop_ok ho h Fm h3)
      | none => rw [e3] at h3; exact TFor_tup0 e1 e2 e3 h3
    | ri y n =>
      have h2 : (match decide (0 < n) with | true => vForT o V x p kI body K (.int y) (S.put kI (.ri (y + 1) (n - 1))) | false => K .next (S.put kI .gone)) := hv
      cases hn : decide (0 < n) with
      | true => rw [hn] at h2; exact TFor_range e1 (of_decide_eq_true hn) (vLoop_ok ho h Fm h2)
      | false => rw [hn] at h2; exact TFor_range0 e1 (Int.not_lt.mp (of_decide_eq_false hn)) h2
    | _ => exact hv.elim
  | _ => exact hv.elim
/-- the executor -/
noncomputable def orc : Nat → Orc
  | 0 => ⟨fun _ _ _ _ => False, fun _ _ _ _ => False, fun _ _ _ _ _ _ _ _ => False, fun _ _ _ _ => False, fun _ _ _ _ _ _ => False⟩
  | n + 1 => ⟨vExp (orc n), vTest (orc n), vCp (orc n), vStmts (orc n), vFor (orc n)⟩
theorem orc_ok : ∀ n, OOk (orc n)
  | 0 => ⟨fun _ _ h => h.elim, fun _ _ h => h.elim, fun _ _ h => h.elim, fun _ _ h => h.elim, fun _ _ h => h.elim⟩
  | n + 1 => ⟨fun h Fm hv => vExp_ok (orc_ok n) h Fm hv, fun h Fm hv => vTest_ok (orc_ok n) h Fm hv, fun h Fm hv => vCp_ok (orc_ok n) h Fm hv, fun h Fm hv => vStmts_ok (orc_ok n) h Fm hv, fun h Fm hv => vFor_ok (orc_ok n) h Fm hv⟩
end
end
noncomputable section
noncomputable def GBS : List (Str × GB) := [(Str.ofString "range", .range), (Str.ofString "len", .len), (Str.ofString "min", .min), (Str.ofString "max", .max), (Str.ofString "abs", .abs), (Str.ofString "list", .list), (Str.ofString "enumerate", .enum), (Str.ofString "sum", .sum), (Str.ofString "int", .int)]
theorem gbs_ok (p : Params) : ∀ x g, GBS.lookup x = some g → nsIn (hd.heap_39 p) mainGlobals x = some none ∧ bootBuiltins x = some g.val ∧ x ≠ "__name__" ∧ (x == ("__debug__" : Str)) = false := by
  have key : ∀ (l : List (Str × GB)) (Q : Str → GB → Prop), (∀ q ∈ l, Q q.1 q.2) → ∀ x g, l.lookup x = some g → Q x g := by
    intro l Q
    induction l with
    | nil => intro _ x g h; cases h
    | cons q r ih =>
      intro hq x g h
      obtain ⟨a, b⟩ := q
      simp only [List.lookup_cons] at h
      split at h
      · rename_i e
        have e := beq_iff_eq.mp e
        cases h
        subst e
        exact hq _ (.head _)
      · exact ih (fun q' h' => hq q' (.tail _ h')) x g h
  refine key GBS _ fun q hq => ?_
  unfold GBS at hq
  rcases hq with _ | ⟨_, _ | ⟨_, _ | ⟨_, _ | ⟨_, _ | ⟨_, _ | ⟨_, _ | ⟨_, _ | ⟨_, _ | ⟨_, h⟩⟩⟩⟩⟩⟩⟩⟩⟩
  · exact ⟨by dsimp only; k_is, by dsimp only [GB.val]; boot_fast, by decide, by decide⟩
  · exact ⟨by dsimp only; k_is, by dsimp only [GB.val]; boot_fast, by decide, by decide⟩
  · exact ⟨by dsimp only; k_is, by dsimp only [GB.val]; boot_fast, by decide, by decide⟩
  · exact ⟨by dsimp only; k_is, by dsimp only [GB.val]; boot_fast, by decide, by decide⟩
  · exact ⟨by dsimp only; k_is, by dsimp only [GB.val]; boot_fast, by decide, by decide⟩
  · exact ⟨by dsimp only; k_is, by dsimp only [GB.val]; boot_fast, by decide, by decide⟩
  · exact ⟨by dsimp only; k_is, by dsimp only [GB.val]; boot_fast, by decide, by decide⟩
  · exact ⟨by dsimp only; k_is, by dsimp only [GB.val]; boot_fast, by decide, by decide⟩
  · exact ⟨by dsimp only; k_is, by dsimp only [GB.val]; boot_fast, by decide, by decide⟩
  · cases h
/-- a body by the executor -/
theorem TK_v {X : Cx} {V : VC} {env env' : Env} {r : Nat} {b : List Stmt} {S : AS} {K : AF → AS → Prop} (n : Nat) (h : VEnv X V env) (Fm : Fram X env' (r + 1)) (hv : vStmts (orc n) V b S K) : TrK X FR (execs b env) S K := TK_of (vStmts_ok (orc_ok n) h Fm hv)
theorem Ends.mk {n : Nat} {l : List (Str × AV)} {K : AV → AS → Prop} {v : AV} {S' : AS} (ρ : List Nat) {v₀ : AV} {hp₀ : List AO} (g : Gc n ρ ⟨[], S'.hp⟩ ⟨[], hp₀⟩) (h1 : v = rnV ρ v₀) (h2 : okV ρ.length v₀ = true) (h3 : S'.loc = l) (h4 : K v₀ ⟨l, hp₀⟩) : Ends n l K v S' := ⟨ρ, v₀, hp₀, g, h1, h2, h3, h4⟩
end
noncomputable section
noncomputable def refsV : AV → List Nat
  | .ref k => [k]
  | _ => []
noncomputable def refsO : AO → List Nat
  | .lst vs => vs.flatMap refsV
  | .tup vs => vs.flatMap refsV
  | .cell (some v) => refsV v
  | _ => []
noncomputable def goodO : AO → Bool
  | .lst _ => true | .tup _ => true | .cell _ => true | .acell => true | .gone => true | .ri _ _ => true | .il _ => true | _ => false
noncomputable def mapV (ρ : List Nat) : AV → AV
  | .ref k => .ref (ρ.idxOf k)
  | v => v
noncomputable def mapO (ρ : List Nat) : AO → AO
  | .lst vs => .lst (vs.map (mapV ρ))
  | .tup vs => .tup (vs.map (mapV ρ))
  | .cell (some v) => .cell (some (mapV ρ v))
  | o => o
/-- what is reached, depth first -/
noncomputable def reach (hp : List AO) : Nat → List Nat → List Nat → List Nat
  | 0, _, acc => acc
  | _, [], acc => acc
  | n + 1, k :: q, acc => if acc.contains k = true then reach hp n q acc else reach hp n (refsO ((hp[k]?).getD .gone) ++ q) (acc ++ [k])
noncomputable def inAll (ρ : List Nat) (ks : List Nat) : Bool := ks.all fun k => ρ.contains k
theorem idx_ok {ρ : List Nat} {k : Nat} (h : ρ.contains k = true) : ρ[ρ.idxOf k]? = some k ∧ ρ.idxOf k < ρ.length := by
  have hm : k ∈ ρ := by simpa using h
  have hl := List.idxOf_lt_length_of_mem hm
  exact ⟨by rw [List.getElem?_eq_getElem hl, List.getElem_idxOf hl], hl⟩
theorem mapV_ok {ρ : List Nat} {v : AV} (h : inAll ρ (refsV v) = true) : rnV ρ (mapV ρ v) = v ∧ okV ρ.length (mapV ρ v) = true := by
  cases v with
  | ref k =>
    have hk : ρ.contains k = true := by simpa [inAll, refsV] using h
    obtain ⟨h1, h2⟩ := idx_ok hk
    exact ⟨by simp [mapV, rnV, h1], by simp [mapV, okV, h2]⟩
  | _ => exact ⟨rfl, rfl⟩
theorem mapVs_ok {ρ : List Nat} : ∀ {vs : List AV}, inAll ρ (vs.flatMap refsV) = true → (vs.map (mapV ρ)).map (rnV ρ) = vs ∧ (vs.map (mapV ρ)).all (okV ρ.length) = true
  | [], _ => ⟨rfl, rfl⟩
  | v :: vs, h => by
    have h1 : inAll ρ (refsV v) = true ∧ inAll ρ (vs.flatMap refsV) = true := by
      unfold inAll at h ⊢
      rw [List.flatMap_cons, List.all_append, Bool.and_eq_true] at h
      exact h
    obtain ⟨a, b⟩ := mapV_ok h1.1
    obtain ⟨c, d⟩ := mapVs_ok h1.2
    refine ⟨by rw [List.map_cons, List.map_cons, a, c], ?_⟩
    rw [List.map_cons, List.all_cons, b, d]; rfl
theorem mapO_ok {ρ : List Nat} {o : AO} (h : inAll ρ (refsO o) = true) (hg : goodO o = true) : rnO ρ (mapO ρ o) = o ∧ okO ρ.length (mapO ρ o) = true := by
  cases o with
  | lst vs => obtain ⟨a, b⟩ := mapVs_ok h; exact ⟨by simp only [mapO, rnO, a], b⟩
  | tup vs => obtain ⟨a, b⟩ := mapVs_ok h; exact ⟨by simp only [mapO, rnO, a], b⟩
  | cell v =>
    cases v with
    | none => exact ⟨rfl, rfl⟩
    | some v => obtain ⟨a, b⟩ := mapV_ok h; exact ⟨by simp only [mapO, rnO, a], b⟩
  | gone => exact ⟨rfl, rfl⟩
  | acell => exact ⟨rfl, rfl⟩
  | ri _ _ => exact ⟨rfl, rfl⟩
  | il _ => exact ⟨rfl, rfl⟩
  | _ => first | exact ff_tt hg | exact nn_ss hg | cases hg
/-- the choice of handles is sound -/
noncomputable def chk (n : Nat) (hp : List AO) (v : AV) (ρ : List Nat) : Bool :=
  decide (ρ.Nodup) && decide (ρ.take n = List.range n) && inAll ρ (refsV v) && ρ.all fun k => match hp[k]? with
    | some o => inAll ρ (refsO o) && goodO o
    | none => false
noncomputable def canon (n : Nat) (hp : List AO) (v : AV) : List Nat := reach hp 200 (((hp.take n).flatMap refsO) ++ refsV v) (List.range n)
theorem ends_canon {n : Nat} {l : List (Str × AV)} {K : AV → AS → Prop} {v : AV} {S : AS} {ρ : List Nat} (hc : chk n S.hp v ρ = true) (hl : S.loc = l) (hK : K (mapV ρ v) ⟨l, ρ.map fun k => mapO ρ ((S.hp[k]?).getD .gone)⟩) : Ends n l K v S := by
  unfold chk at hc
  simp only [Bool.and_eq_true, decide_eq_true_eq] at hc
  obtain ⟨⟨⟨nd, pre⟩, hv⟩, ho⟩ := hc
  obtain ⟨a, b⟩ := mapV_ok hv
  have key : ∀ k ∈ ρ, ∃ o, S.hp[k]? = some o ∧ inAll ρ (refsO o) = true ∧ goodO o = true := fun k hk => by
    have := List.all_eq_true.mp ho k hk
    split at this
    · rename_i o e
      exact ⟨o, e, by simpa using this⟩
    · cases this
  refine Ends.mk ρ (Gc.of nd (fun i hi => ?_) ?_ ?_ dnL.nil) a.symm b hl hK
  · have : (ρ.take n)[i]? = some i := by rw [pre, List.getElem?_range hi]
    rwa [List.getElem?_take_of_lt hi] at this
  · show (ρ.map fun k => S.hp[k]?) = (ρ.map fun k => mapO ρ ((S.hp[k]?).getD .gone)).map fun ao => some (rnO ρ ao)
    rw [List.map_map]
    refine List.map_congr_left fun k hk => ?_
    obtain ⟨o, e, h1, h2⟩ := key k hk
    simp only [Function.comp, e, Option.getD_some]
    rw [(mapO_ok h1 h2).1]
  · show (ρ.map fun k => mapO ρ ((S.hp[k]?).getD .gone)).all (okO ρ.length) = true
    rw [List.all_map]
    refine List.all_eq_true.mpr fun k hk => ?_
    obtain ⟨o, e, h1, h2⟩ := key k hk
    simp only [Function.comp, e, Option.getD_some]
    exact (mapO_ok h1 h2).2
/-- an end, its garbage forgotten by reckoning -/
noncomputable def EndC (n : Nat) (l : List (Str × AV)) (K : AV → AS → Prop) (v : AV) (S : AS) : Prop := fcNs (canon n S.hp v) fun ρ => vIf (chk n S.hp v ρ) (fcV (mapV ρ v) fun v => fcH (ρ.map fun k => mapO ρ ((S.hp[k]?).getD .gone)) fun hp => K v ⟨l, hp⟩)
theorem endC_ok {n : Nat} {l : List (Str × AV)} {K : AV → AS → Prop} {v : AV} {S : AS} (hl : S.loc = l) (h : EndC n l K v S) : Ends n l K v S := by
  obtain ⟨hc, h⟩ := vIf_ok (fcNs_ok h)
  exact ends_canon hc hl (fcH_ok (P := fun hp => K _ ⟨l, hp⟩) (fcV_ok (P := fun v => fcH _ fun hp => K v ⟨l, hp⟩) h))
end
noncomputable section
/-- what a binding of names tells, both ways -/
noncomputable def CR (θ : List Addr) (l : List (Str × AV)) (m : Str → Option Value) : Prop := ∀ x, (l.lookup x = none ∧ m x = none) ∨ ∃ v c, l.lookup x = some v ∧ m x = some c ∧ VR θ v c
theorem CR.loc {θ : List Addr} {l : List (Str × AV)} {m : Str → Option Value} (h : CR θ l m) : LocR θ l m := fun x v e => by
  rcases h x with ⟨h1, _⟩ | ⟨w, c, h1, h2, h3⟩
  · rw [h1] at e; cases e
  · rw [h1] at e; cases e; exact ⟨c, h2, h3⟩
theorem CR.nil {θ : List Addr} : CR θ [] fun _ => none := fun _ => .inl ⟨rfl, rfl⟩
theorem CR.upd {θ : List Addr} {l : List (Str × AV)} {m : Str → Option Value} {n : Str} {v : AV} {c : Value} (h : CR θ l m) (hv : VR θ v c) : CR θ ((n, v) :: l) fun y => if y = n then some c else m y := fun x => by
  by_cases hx : x = n
  · subst hx
    exact .inr ⟨v, c, by rw [List.lookup_cons, beq_self_eq_true], if_pos rfl, hv⟩
  · rcases h x with ⟨h1, h2⟩ | ⟨w, d, h1, h2, h3⟩
    · exact .inl ⟨by rw [List.lookup_cons, beq_false_of_ne hx]; exact h1, (if_neg hx).trans h2⟩
    · exact .inr ⟨w, d, by rw [List.lookup_cons, beq_false_of_ne hx]; exact h1, (if_neg hx).trans h2, h3⟩
/-- the names of a call, bound: those that are not cells, those that are -/
noncomputable def aL (kinds : List (Str × NameKind)) : List Str → List AV → List (Str × AV) → List (Str × AV)
  | n :: ns, v :: vs, l => aL kinds ns vs (if kinds.lookup n = some .local then (n, v) :: l else l)
  | _, _, l => l
noncomputable def aC (kinds : List (Str × NameKind)) : List Str → List AV → List (Str × AV) → List (Str × AV)
  | n :: ns, v :: vs, l => aC kinds ns vs (if kinds.lookup n = some .local then l else (n, v) :: l)
  | _, _, l => l
theorem aLC_ok {θ : List Addr} {kinds : List (Str × NameKind)} {kd : Str → Option NameKind} (hk : ∀ n, kd n = kinds.lookup n) : ∀ {names : List Str} {vs : List AV} {cs : List Value} {l l' : List (Str × AV)} {m m' : Str → Option Value}, A2 (VR θ) vs cs → CR θ l m → CR θ l' m' → CR θ (aL kinds names vs l) (bindL kd (names.zip cs) m) ∧ CR θ (aC kinds names vs l') (bindC kd (names.zip cs) m')
  | [], _, _, _, _, _, _, _, h, h' => ⟨h, h'⟩
  | n :: ns, _, _, _, _, _, _, .nil, h, h' => ⟨h, h'⟩
  | n :: ns, _, _, l, l', m, m', .cons hv r, h, h' => by
    unfold aL aC
    simp only [List.zip_cons_cons, bindL, bindC, hk n]
    by_cases hx : kinds.lookup n = some .local
    · simp only [if_pos hx]
      exact aLC_ok hk r (h.upd hv) h'
    · simp only [if_neg hx]
      exact aLC_ok hk r h (h'.upd hv)
noncomputable def cellNs (kinds : List (Str × NameKind)) : List Str := (cellsFrom 0 kinds []).map (·.1)
theorem cellsFrom_names : ∀ (kinds : List (Str × NameKind)) (n m : Nat) (a b : List (Str × Addr)), a.map (·.1) = b.map (·.1) → (cellsFrom n kinds a).map (·.1) = (cellsFrom m kinds b).map (·.1)
  | [], _, _, _, _, h => h
  | (x, k) :: r, n, m, a, b, h => by
    unfold cellsFrom
    by_cases hk : (k == NameKind.cell) = true
    · rw [if_pos hk, if_pos hk]
      exact cellsFrom_names r _ _ _ _ (by rw [List.map_cons, List.map_cons, h])
    · rw [if_neg hk, if_neg hk]
      exact cellsFrom_names r _ _ _ _ h
theorem CV.of {θ : List Addr} {l : List (Str × AV)} {m : Str → Option Value} (h : CR θ l m) : ∀ cs : List (Str × Addr), CV θ m cs ((cs.map (·.1)).map fun n => .cell (l.lookup n))
  | [] => .nil
  | (n, c) :: cs => by
    rcases h n with ⟨h1, h2⟩ | ⟨v, d, h1, h2, h3⟩
    · simp only [List.map_cons, h1]; exact .zero h2 (CV.of h cs)
    · simp only [List.map_cons, h1]; exact .one h2 h3 (CV.of h cs)
noncomputable def numb : Nat → List Str → List (Str × Nat)
  | _, [] => []
  | n, x :: r => (x, n) :: numb (n + 1) r
theorem numb_ok {θ : List Addr} : ∀ (cs : List (Str × Addr)) (n : Nat), (∀ i x c, cs[i]? = some (x, c) → θ[n + i]? = some c) → A2 (CA θ) (numb n (cs.map (·.1))) cs
  | [], _, _ => .nil
  | (x, c) :: cs, n, h => .cons ⟨rfl, h 0 x c rfl⟩ (numb_ok cs (n + 1) fun i y d e => by
    have := h (i + 1) y d e
    rwa [show n + 1 + i = n + (i + 1) by omega])
/-- the value that a call's end tells -/
noncomputable def retV : AF → AV
  | .ret v => v
  | _ => .nil
/-- a call's end: its garbage forgotten, where that can be -/
noncomputable def EndV0 (n : Nat) (l : List (Str × AV)) (K : AV → AS → Prop) (v : AV) (S : AS) : Prop := match S.hp.all goodO with
  | true => EndC n l K v S
  | false => K v S
noncomputable def EndV (n : Nat) (l : List (Str × AV)) (K : AV → AS → Prop) (v : AV) (S : AS) : Prop := fcV v fun v => fcH S.hp fun hp => EndV0 n l K v ⟨S.loc, hp⟩
theorem EndV_ok {n : Nat} {l : List (Str × AV)} {K : AV → AS → Prop} {v : AV} {S : AS} (h : EndV n l K v S) : EndV0 n l K v S := fcH_ok (P := fun hp => EndV0 n l K v ⟨S.loc, hp⟩) (fcV_ok (P := fun v => fcH S.hp fun hp => EndV0 n l K v ⟨S.loc, hp⟩) h)
theorem TLs_gcG {X : Cx} {f : List Value → Sem Value} {vs : List AV} {S : AS} {K : AV → AS → Prop} (h : TrLs X VR f vs S fun v S' => Ends S.hp.length S.loc K v S' ∨ K v S') : TrLs X VR f vs S K := fun θ s E Q cs R p vc kk => by
  obtain ⟨os0, m0, F0, N0, D0, l0, O0, V0⟩ := R.is
  refine h θ s E Q cs R p vc fun v S' θ' h' tk' a hK R' p' v' => ?_
  rcases hK with hK | hK
  · obtain ⟨ρ, v₀, hp₀, g, rfl, ok, hl, hK⟩ := hK
    have hθ : θ.length = S.hp.length := by rw [O0.len, l0]
    have R0 : Rel X.h₀ X.L X.rest ⟨[], S'.hp⟩ θ' h' := by
      obtain ⟨os, m, F, N, D, l, O, V⟩ := R'.is
      exact ⟨os, m, F, N, D, l, O, LocR.nil⟩
    have R1 := R0.gc g.nd g.len g.hS g.hl
    have p1 : θ <+: pick ρ θ' 0 := g.pre' hθ p'
    refine kk v₀ ⟨S.loc, hp₀⟩ _ h' tk' a hK ?_ p1 (v'.down ok)
    obtain ⟨os, m, F, N, D, l, O, V⟩ := R'.is
    obtain ⟨os1, m1, F1, N1, D1, l1, O1, _⟩ := R1.is
    refine ⟨os1, m, F, N1, D1, l1, O1, fun x w e => ?_⟩
    obtain ⟨c, h1, h2⟩ := V x w (by rw [hl]; exact e)
    obtain ⟨c0, _, h3⟩ := V0 x w e
    refine ⟨c, h1, ?_⟩
    cases h3 with
    | ref h3 => cases h2 with | ref h2 => have := pre_get p' h3; rw [h2] at this; cases this; exact .ref (pre_get p1 h3)
    | int => cases h2; exact .int
    | bool => cases h2; exact .bool
    | nil => cases h2; exact .nil
    | fn => cases h2; exact .fn
  · exact kk v S' θ' h' tk' a hK R' p' v'
/-- a function of the program's: what the proof needs of it -/
structure FnP (fa : Addr) where
  name : Str
  qual : Str
  params : Arguments
  body : List Stmt
  scope : Scope
  dV : Value
  kV : Value
  doc : Value
  pm : Value
  cdv : Value
  ct : Value
  oc : Value
  an : Option Addr
  od : Option Addr
  osl : Array (Option Value)
  look : ∀ p, List.lookup fa (hd.heap_39 p) = some { cls := oc, dict := od, data := Data.func (fnOf name qual params body scope dV kV doc pm an cdv ct), slots := osl }
  code : ∀ p, codeIn (hd.heap_39 p) cdv qual = true
/-- own functions that a text may call -/
noncomputable def FOk (r : Nat) (fa : Addr) (sp : Spec) : Prop := ∀ {X : Cx} {env : Env}, Fram X env r → ∀ vs S K, sp vs S K → TrLs X VR (callF (.ref fa)) vs S K
noncomputable def FNs (r : Nat) (fn : List (Str × Spec)) : Prop := ∀ p x sp, fn.lookup x = some sp → ∃ fa, nsIn (hd.heap_39 p) mainGlobals x = some (some (.ref fa)) ∧ keepIn (hd.heap_39 p) (.ref fa) = true ∧ (x == ("__debug__" : Str)) = false ∧ FOk r fa sp
theorem FNs.nil {r : Nat} : FNs r [] := fun _ _ _ h => by cases h
theorem FNs.cons {r : Nat} {fn : List (Str × Spec)} {x : Str} {sp : Spec} (fa : Addr) (h1 : ∀ p, nsIn (hd.heap_39 p) mainGlobals x = some (some (.ref fa))) (h2 : ∀ p, keepIn (hd.heap_39 p) (.ref fa) = true) (h3 : (x == ("__debug__" : Str)) = false) (h4 : FOk r fa sp) (t : FNs r fn) : FNs r ((x, sp) :: fn) := fun p y s e => by
  rw [List.lookup_cons] at e
  by_cases hy : y = x
  · subst hy; rw [beq_self_eq_true] at e; cases e; exact ⟨fa, h1 p, h2 p, h3, h4⟩
  · rw [beq_false_of_ne hy] at e; exact t p y s e
theorem FNs.le {r r' : Nat} {fn : List (Str × Spec)} (h : r ≤ r') (t : FNs r fn) : FNs r' fn := fun p x sp e => by
  obtain ⟨fa, h1, h2, h3, h4⟩ := t p x sp e
  exact ⟨fa, h1, h2, h3, fun Fm vs S K hs => h4 (Fram.le h Fm) vs S K hs⟩
theorem FOk.le {r r' : Nat} {fa : Addr} {sp : Spec} (h : r ≤ r') (t : FOk r fa sp) : FOk r' fa sp := fun Fm vs S K hs => t (Fram.le h Fm) vs S K hs
/-- where a call begins -/
noncomputable def cas (kinds : List (Str × NameKind)) (names : List Str) (vs : List AV) : List AO := (cellNs kinds).map fun n => .cell ((aC kinds names vs []).lookup n)
/-- what holds inside a frame of the program's own -/
structure InF {fa : Addr} (P : FnP fa) (r : Nat) (n : Nat) (X : Cx) (env : Env) : Prop where
  Fm : Fram X env r
  V : ∀ {fn : List (Str × Spec)}, FNs r fn → VEnv X ⟨P.scope.names, numb n (cellNs P.scope.names), none, GBS, fn⟩ env
  hθ : X.θ₀.length = n + (cellNs P.scope.names).length
theorem T_fn {fa : Addr} (P : FnP fa) (names : List Str) {X : Cx} {env : Env} {r : Nat} {S : AS} {K : AV → AS → Prop} {vs : List AV} (Fm : Fram X env (r + 1)) (hlen : vs.length = names.length)
    (hb : ∀ (s : Shared) (cs : List Value), cs.length = names.length → BindsTo s (fnOf P.name P.qual P.params P.body P.scope P.dV P.kV P.doc P.pm P.an P.cdv P.ct) ⟨cs, []⟩ (names.zip cs))
    (hz : (names.all fun y => P.scope.names.lookup y == some .local || P.scope.names.lookup y == some .cell) = true) (hnd : (cellNs P.scope.names).Nodup) (hf : (P.scope.names.all fun p => p.2 != .free) = true)
    (h1 : P.scope.isCoroutine = false) (h2 : P.scope.isGenerator = false) (h3 : P.scope.kind = .function)
    (h : ∀ X' env', InF P r S.hp.length X' env' → TrK X' FR (execs P.body env') ⟨aL P.scope.names names vs [], S.hp ++ cas P.scope.names names vs⟩ fun fl S' => EndV S.hp.length S.loc K (retV fl) ⟨S.loc, S'.hp⟩) : TrLs X VR (callF (.ref fa)) vs S K := by
  have hcn : ∀ L', (cellsFrom (L' + 1) P.scope.names []).map (·.1) = cellNs P.scope.names := fun L' => cellsFrom_names _ _ _ _ _ rfl
  have hk : ∀ L' n, (envOfC P.qual P.scope L' fa P.cdv).kindOf n = P.scope.names.lookup n := fun _ _ => rfl
  refine TLs_gcG (T_enterC (names := names) (loc := aL P.scope.names names vs []) (cas := cas P.scope.names names vs) Fm (P.look _) (P.code _) (fun s cs hl => ⟨hb s cs (hl.trans hlen), ?_⟩) hnd (fun θ cs L' hv => ?_) (fun g L' θ hp F2 hcl hθ => ?_) h1 h2 h3)
  · refine List.all_eq_true.mpr fun y hy => List.all_eq_true.mp hz y.1 (List.of_mem_zip hy).1
  · obtain ⟨a, b⟩ := aLC_ok (hk L') (names := names) hv CR.nil CR.nil
    refine ⟨a.loc, ?_⟩
    have := CV.of b (cellsFrom (L' + 1) P.scope.names [])
    rw [hcn L'] at this
    exact this
  · have hc : A2 (CA θ) (numb S.hp.length (cellNs P.scope.names)) (cellsFrom (L' + 1) P.scope.names []) := by
      have := numb_ok (θ := θ) (cellsFrom (L' + 1) P.scope.names []) S.hp.length fun i x c e => hcl i x c e
      rwa [hcn L'] at this
    refine TK_mono (h (X.in (envOfC P.qual P.scope L' fa P.cdv) g L' θ) (envOfC P.qual P.scope L' fa P.cdv) ⟨F2, fun {fn} hfn => ⟨h3, rfl, rfl, rfl, hc, .inl ⟨rfl, hf, _, _, _, _, rfl⟩, ⟨F2.k, F2.t, gbs_ok _, fun x sp e => ?_⟩⟩, ?_⟩) fun fl S' hE => ?_
    · obtain ⟨fa', e1, e2, e3, e4⟩ := hfn X.w.params x sp e
      exact ⟨fa', e1, e2, e3, fun vs S K hs => e4 F2 vs S K hs⟩
    · show θ.length = _
      rw [hθ]; simp [cas]
    · have key : Ends S.hp.length S.loc K (retV fl) ⟨S.loc, S'.hp⟩ ∨ K (retV fl) ⟨S.loc, S'.hp⟩ := by
        replace hE := EndV_ok hE
        unfold EndV0 at hE
        split at hE
        · exact .inl (endC_ok rfl hE)
        · exact .inr hE
      cases fl <;> exact key
/-- a function of the program's, run where it is called -/
noncomputable def fnS {fa : Addr} (f : Nat) (P : FnP fa) (names : List Str) (fn : List (Str × Spec)) : Spec := fun vs S K => vDec (vs.length = names.length) (fcN S.hp.length fun n => fcS ⟨aL P.scope.names names vs [], S.hp ++ cas P.scope.names names vs⟩ fun S1 => vStmts (orc f) ⟨P.scope.names, numb n (cellNs P.scope.names), none, GBS, fn⟩ P.body S1 fun fl S' => EndV n S.loc K (retV fl) ⟨S.loc, S'.hp⟩)
theorem fnS_ok {fa : Addr} (f : Nat) (P : FnP fa) (names : List Str) {fn : List (Str × Spec)} {r : Nat} (hfn : FNs (r + 1) fn)
    (hb : ∀ (s : Shared) (cs : List Value), cs.length = names.length → BindsTo s (fnOf P.name P.qual P.params P.body P.scope P.dV P.kV P.doc P.pm P.an P.cdv P.ct) ⟨cs, []⟩ (names.zip cs))
    (hz : (names.all fun y => P.scope.names.lookup y == some .local || P.scope.names.lookup y == some .cell) = true) (hnd : (cellNs P.scope.names).Nodup) (hf : (P.scope.names.all fun p => p.2 != .free) = true)
    (h1 : P.scope.isCoroutine = false) (h2 : P.scope.isGenerator = false) (h3 : P.scope.kind = .function) : FOk (r + 2) fa (fnS f P names fn) := fun Fm vs S K hs => by
  obtain ⟨hl, hs⟩ := vDec_ok hs
  have hs := fcS_ok (P := fun S1 => vStmts (orc f) ⟨P.scope.names, numb S.hp.length (cellNs P.scope.names), none, GBS, fn⟩ P.body S1 fun fl S' => EndV S.hp.length S.loc K (retV fl) ⟨S.loc, S'.hp⟩) (fcN_ok (P := fun n => fcS ⟨aL P.scope.names names vs [], S.hp ++ cas P.scope.names names vs⟩ fun S1 => vStmts (orc f) ⟨P.scope.names, numb n (cellNs P.scope.names), none, GBS, fn⟩ P.body S1 fun fl S' => EndV n S.loc K (retV fl) ⟨S.loc, S'.hp⟩) hs)
  exact T_fn P names Fm hl hb hz hnd hf h1 h2 h3 fun X' env' I => TK_v f (I.V hfn) I.Fm hs
end
noncomputable section
noncomputable def P_take : FnP 109 := FnP.mk _ _ _ _ _ _ _ _ _ _ _ _ _ _ _ (fun p => rfl) (fun p => by k_is)
noncomputable def P_lrow : FnP 116 := FnP.mk _ _ _ _ _ _ _ _ _ _ _ _ _ _ _ (fun p => rfl) (fun p => by k_is)
noncomputable def P_hits : FnP 121 := FnP.mk _ _ _ _ _ _ _ _ _ _ _ _ _ _ _ (fun p => rfl) (fun p => by k_is)
noncomputable def P_whole : FnP 97 := FnP.mk _ _ _ _ _ _ _ _ _ _ _ _ _ _ _ (fun p => rfl) (fun p => by k_is)
noncomputable def P_kern : FnP 102 := FnP.mk _ _ _ _ _ _ _ _ _ _ _ _ _ _ _ (fun p => rfl) (fun p => by k_is)
noncomputable def P_smith : FnP 87 := FnP.mk _ _ _ _ _ _ _ _ _ _ _ _ _ _ _ (fun p => rfl) (fun p => by k_is)
noncomputable def P_diag : FnP 92 := FnP.mk _ _ _ _ _ _ _ _ _ _ _ _ _ _ _ (fun p => rfl) (fun p => by k_is)
noncomputable def P_least : FnP 58 := FnP.mk _ _ _ _ _ _ _ _ _ _ _ _ _ _ _ (fun p => rfl) (fun p => by k_is)
noncomputable def P_bring : FnP 72 := FnP.mk _ _ _ _ _ _ _ _ _ _ _ _ _ _ _ (fun p => rfl) (fun p => by k_is)
noncomputable def P_swap : FnP 65 := FnP.mk _ _ _ _ _ _ _ _ _ _ _ _ _ _ _ (fun p => rfl) (fun p => by k_is)
noncomputable def P_clear : FnP 77 := FnP.mk _ _ _ _ _ _ _ _ _ _ _ _ _ _ _ (fun p => rfl) (fun p => by k_is)
noncomputable def P_undiv : FnP 82 := FnP.mk _ _ _ _ _ _ _ _ _ _ _ _ _ _ _ (fun p => rfl) (fun p => by k_is)
noncomputable def P_unit : FnP 46 := FnP.mk _ _ _ _ _ _ _ _ _ _ _ _ _ _ _ (fun p => rfl) (fun p => by k_is)
noncomputable def P_mul : FnP 51 := FnP.mk _ _ _ _ _ _ _ _ _ _ _ _ _ _ _ (fun p => rfl) (fun p => by k_is)
noncomputable def P_need : FnP 41 := FnP.mk _ _ _ _ _ _ _ _ _ _ _ _ _ _ _ (fun p => rfl) (fun p => by k_is)
noncomputable def P_law : FnP 126 := FnP.mk _ _ _ _ _ _ _ _ _ _ _ _ _ _ _ (fun p => rfl) (fun p => by k_is)
end
noncomputable section
theorem len1 {C : List Value → Prop} (h : ∀ a, C [a]) : ∀ cs : List Value, cs.length = 1 → C cs := fun cs e => by
  cases cs with
  | nil => cases e
  | cons a r => cases r with
    | nil => exact h a
    | cons _ _ => cases e
theorem len2 {C : List Value → Prop} (h : ∀ a b, C [a, b]) : ∀ cs : List Value, cs.length = 2 → C cs := fun cs e => by
  cases cs with
  | nil => cases e
  | cons a r => exact len1 (C := fun r => C (a :: r)) (h a) r (Nat.succ.inj e)
theorem len3 {C : List Value → Prop} (h : ∀ a b c, C [a, b, c]) : ∀ cs : List Value, cs.length = 3 → C cs := fun cs e => by
  cases cs with
  | nil => cases e
  | cons a r => exact len2 (C := fun r => C (a :: r)) (h a) r (Nat.succ.inj e)
theorem len5 {C : List Value → Prop} (h : ∀ a b c d e, C [a, b, c, d, e]) : ∀ cs : List Value, cs.length = 5 → C cs := fun cs e => by
  cases cs with
  | nil => cases e
  | cons a r => cases r with
    | nil => cases e
    | cons b r => exact len3 (C := fun r => C (a :: b :: r)) (h a b) r (Nat.succ.inj (Nat.succ.inj e))
noncomputable def N_need : List Str := [Str.ofString "is_right", Str.ofString "text"]
theorem hb_need : ∀ (s : Shared) (cs : List Value), cs.length = N_need.length → BindsTo s (fnOf P_need.name P_need.qual P_need.params P_need.body P_need.scope P_need.dV P_need.kV P_need.doc P_need.pm P_need.an P_need.cdv P_need.ct) ⟨cs, []⟩ (N_need.zip cs) := fun s => len2 fun a b => BindsTo.of_eq rfl
noncomputable def s_need : Spec := fnS 60 P_need N_need []
theorem ok_need : FOk 2 41 s_need := fnS_ok 60 P_need N_need FNs.nil hb_need rfl (by decide) rfl rfl rfl rfl
noncomputable def N_unit : List Str := [Str.ofString "n"]
theorem hb_unit : ∀ (s : Shared) (cs : List Value), cs.length = N_unit.length → BindsTo s (fnOf P_unit.name P_unit.qual P_unit.params P_unit.body P_unit.scope P_unit.dV P_unit.kV P_unit.doc P_unit.pm P_unit.an P_unit.cdv P_unit.ct) ⟨cs, []⟩ (N_unit.zip cs) := fun s => len1 fun a => BindsTo.of_eq rfl
noncomputable def s_unit : Spec := fnS 60 P_unit N_unit []
theorem ok_unit : FOk 2 46 s_unit := fnS_ok 60 P_unit N_unit FNs.nil hb_unit rfl (by decide) rfl rfl rfl rfl
noncomputable def N_swap : List Str := [Str.ofString "a", Str.ofString "one", Str.ofString "other"]
theorem hb_swap : ∀ (s : Shared) (cs : List Value), cs.length = N_swap.length → BindsTo s (fnOf P_swap.name P_swap.qual P_swap.params P_swap.body P_swap.scope P_swap.dV P_swap.kV P_swap.doc P_swap.pm P_swap.an P_swap.cdv P_swap.ct) ⟨cs, []⟩ (N_swap.zip cs) := fun s => len3 fun a b c => BindsTo.of_eq rfl
noncomputable def s_swap : Spec := fnS 60 P_swap N_swap []
theorem ok_swap : FOk 2 65 s_swap := fnS_ok 60 P_swap N_swap FNs.nil hb_swap rfl (by decide) rfl rfl rfl rfl
noncomputable def N_undiv : List Str := [Str.ofString "s", Str.ofString "step", Str.ofString "width"]
theorem hb_undiv : ∀ (s : Shared) (cs : List Value), cs.length = N_undiv.length → BindsTo s (fnOf P_undiv.name P_undiv.qual P_undiv.params P_undiv.body P_undiv.scope P_undiv.dV P_undiv.kV P_undiv.doc P_undiv.pm P_undiv.an P_undiv.cdv P_undiv.ct) ⟨cs, []⟩ (N_undiv.zip cs) := fun s => len3 fun a b c => BindsTo.of_eq rfl
noncomputable def s_undiv : Spec := fnS 60 P_undiv N_undiv []
theorem ok_undiv : FOk 2 82 s_undiv := fnS_ok 60 P_undiv N_undiv FNs.nil hb_undiv rfl (by decide) rfl rfl rfl rfl
noncomputable def N_clear : List Str := [Str.ofString "s", Str.ofString "u", Str.ofString "v", Str.ofString "step", Str.ofString "width"]
theorem hb_clear : ∀ (s : Shared) (cs : List Value), cs.length = N_clear.length → BindsTo s (fnOf P_clear.name P_clear.qual P_clear.params P_clear.body P_clear.scope P_clear.dV P_clear.kV P_clear.doc P_clear.pm P_clear.an P_clear.cdv P_clear.ct) ⟨cs, []⟩ (N_clear.zip cs) := fun s => len5 fun a b c d e => BindsTo.of_eq rfl
noncomputable def s_clear : Spec := fnS 60 P_clear N_clear []
theorem ok_clear : FOk 2 77 s_clear := fnS_ok 60 P_clear N_clear FNs.nil hb_clear rfl (by decide) rfl rfl rfl rfl
noncomputable def N_mul : List Str := [Str.ofString "a", Str.ofString "b"]
theorem hb_mul : ∀ (s : Shared) (cs : List Value), cs.length = N_mul.length → BindsTo s (fnOf P_mul.name P_mul.qual P_mul.params P_mul.body P_mul.scope P_mul.dV P_mul.kV P_mul.doc P_mul.pm P_mul.an P_mul.cdv P_mul.ct) ⟨cs, []⟩ (N_mul.zip cs) := fun s => len2 fun a b => BindsTo.of_eq rfl
noncomputable def s_mul : Spec := fnS 60 P_mul N_mul []
theorem ok_mul : FOk 2 51 s_mul := fnS_ok 60 P_mul N_mul FNs.nil hb_mul rfl (by decide) rfl rfl rfl rfl
noncomputable def N_diag : List Str := [Str.ofString "s", Str.ofString "width"]
theorem hb_diag : ∀ (s : Shared) (cs : List Value), cs.length = N_diag.length → BindsTo s (fnOf P_diag.name P_diag.qual P_diag.params P_diag.body P_diag.scope P_diag.dV P_diag.kV P_diag.doc P_diag.pm P_diag.an P_diag.cdv P_diag.ct) ⟨cs, []⟩ (N_diag.zip cs) := fun s => len2 fun a b => BindsTo.of_eq rfl
noncomputable def s_diag : Spec := fnS 60 P_diag N_diag []
theorem ok_diag : FOk 2 92 s_diag := fnS_ok 60 P_diag N_diag FNs.nil hb_diag rfl (by decide) rfl rfl rfl rfl
noncomputable def N_kern : List Str := [Str.ofString "s", Str.ofString "v", Str.ofString "width"]
theorem hb_kern : ∀ (s : Shared) (cs : List Value), cs.length = N_kern.length → BindsTo s (fnOf P_kern.name P_kern.qual P_kern.params P_kern.body P_kern.scope P_kern.dV P_kern.kV P_kern.doc P_kern.pm P_kern.an P_kern.cdv P_kern.ct) ⟨cs, []⟩ (N_kern.zip cs) := fun s => len3 fun a b c => BindsTo.of_eq rfl
noncomputable def s_kern : Spec := fnS 60 P_kern N_kern []
theorem ok_kern : FOk 2 102 s_kern := fnS_ok 60 P_kern N_kern FNs.nil hb_kern rfl (by decide) rfl rfl rfl rfl
noncomputable def N_lrow : List Str := [Str.ofString "row", Str.ofString "column"]
theorem hb_lrow : ∀ (s : Shared) (cs : List Value), cs.length = N_lrow.length → BindsTo s (fnOf P_lrow.name P_lrow.qual P_lrow.params P_lrow.body P_lrow.scope P_lrow.dV P_lrow.kV P_lrow.doc P_lrow.pm P_lrow.an P_lrow.cdv P_lrow.ct) ⟨cs, []⟩ (N_lrow.zip cs) := fun s => len2 fun a b => BindsTo.of_eq rfl
noncomputable def s_lrow : Spec := fnS 60 P_lrow N_lrow []
theorem ok_lrow : FOk 2 116 s_lrow := fnS_ok 60 P_lrow N_lrow FNs.nil hb_lrow rfl (by decide) rfl rfl rfl rfl
noncomputable def N_least : List Str := [Str.ofString "a", Str.ofString "step", Str.ofString "width"]
theorem hb_least : ∀ (s : Shared) (cs : List Value), cs.length = N_least.length → BindsTo s (fnOf P_least.name P_least.qual P_least.params P_least.body P_least.scope P_least.dV P_least.kV P_least.doc P_least.pm P_least.an P_least.cdv P_least.ct) ⟨cs, []⟩ (N_least.zip cs) := fun s => len3 fun a b c => BindsTo.of_eq rfl
noncomputable def s_least : Spec := fnS 60 P_least N_least []
theorem ok_least : FOk 2 58 s_least := fnS_ok 60 P_least N_least FNs.nil hb_least rfl (by decide) rfl rfl rfl rfl
noncomputable def fnB : List (Str × Spec) := [(Str.ofString "swap_columns", s_swap)]
theorem fnB_ok : FNs 2 fnB := FNs.cons 65 (fun p => by k_is) (fun p => by first | rfl | k_is) (by decide) (FOk.le (by decide) ok_swap) (FNs.nil)
noncomputable def N_bring : List Str := [Str.ofString "s", Str.ofString "u", Str.ofString "v", Str.ofString "spot", Str.ofString "step"]
theorem hb_bring : ∀ (s : Shared) (cs : List Value), cs.length = N_bring.length → BindsTo s (fnOf P_bring.name P_bring.qual P_bring.params P_bring.body P_bring.scope P_bring.dV P_bring.kV P_bring.doc P_bring.pm P_bring.an P_bring.cdv P_bring.ct) ⟨cs, []⟩ (N_bring.zip cs) := fun s => len5 fun a b c d e => BindsTo.of_eq rfl
noncomputable def s_bring : Spec := fnS 60 P_bring N_bring fnB
theorem ok_bring : FOk 3 72 s_bring := fnS_ok 60 P_bring N_bring fnB_ok hb_bring rfl (by decide) rfl rfl rfl rfl
noncomputable def N_smith : List Str := [Str.ofString "a", Str.ofString "width"]
theorem hb_smith : ∀ (s : Shared) (cs : List Value), cs.length = N_smith.length → BindsTo s (fnOf P_smith.name P_smith.qual P_smith.params P_smith.body P_smith.scope P_smith.dV P_smith.kV P_smith.doc P_smith.pm P_smith.an P_smith.cdv P_smith.ct) ⟨cs, []⟩ (N_smith.zip cs) := fun s => len2 fun a b => BindsTo.of_eq rfl
noncomputable def N_whole : List Str := [Str.ofString "a", Str.ofString "b", Str.ofString "width"]
theorem hb_whole : ∀ (s : Shared) (cs : List Value), cs.length = N_whole.length → BindsTo s (fnOf P_whole.name P_whole.qual P_whole.params P_whole.body P_whole.scope P_whole.dV P_whole.kV P_whole.doc P_whole.pm P_whole.an P_whole.cdv P_whole.ct) ⟨cs, []⟩ (N_whole.zip cs) := fun s => len3 fun a b c => BindsTo.of_eq rfl
noncomputable def N_take : List Str := [Str.ofString "box", Str.ofString "many"]
theorem hb_take : ∀ (s : Shared) (cs : List Value), cs.length = N_take.length → BindsTo s (fnOf P_take.name P_take.qual P_take.params P_take.body P_take.scope P_take.dV P_take.kV P_take.doc P_take.pm P_take.an P_take.cdv P_take.ct) ⟨cs, []⟩ (N_take.zip cs) := fun s => len2 fun a b => BindsTo.of_eq rfl
noncomputable def N_hits : List Str := [Str.ofString "a", Str.ofString "right", Str.ofString "n"]
theorem hb_hits : ∀ (s : Shared) (cs : List Value), cs.length = N_hits.length → BindsTo s (fnOf P_hits.name P_hits.qual P_hits.params P_hits.body P_hits.scope P_hits.dV P_hits.kV P_hits.doc P_hits.pm P_hits.an P_hits.cdv P_hits.ct) ⟨cs, []⟩ (N_hits.zip cs) := fun s => len3 fun a b c => BindsTo.of_eq rfl
end
noncomputable section
/-- the contents of some cells forgotten -/
noncomputable def wkAt (ks : List Nat) (i : Nat) (o : AO) : AO := match o with
  | .cell v => match ks.contains i with
    | true => .acell
    | false => .cell v
  | o => o
noncomputable def wkHp (ks : List Nat) : Nat → List AO → List AO
  | _, [] => []
  | i, o :: r => wkAt ks i o :: wkHp ks (i + 1) r
theorem wkAt_ok {θ : List Addr} {ks : List Nat} {i : Nat} {o : AO} {c : Option Obj} (h : OR θ o c) : OR θ (wkAt ks i o) c := by
  cases o with
  | cell v =>
    show OR θ (match ks.contains i with | true => .acell | false => .cell v) c
    cases ks.contains i with
    | false => exact h
    | true => cases h with
      | cell0 h => exact .acell h
      | cell1 h _ => exact .acell h
  | _ => exact h
theorem wkHp_ok {θ : List Addr} {ks : List Nat} : ∀ {hp : List AO} {os : List (Option Obj)} (i : Nat), A2 (OR θ) hp os → A2 (OR θ) (wkHp ks i hp) os
  | [], _, _, h => h
  | _ :: _, _, i, .cons h r => .cons (wkAt_ok h) (wkHp_ok (i + 1) r)
theorem Rel.wkL {h₀ h : Heap} {L : Addr} {rest : List (Addr × Obj)} {S : AS} {θ : List Addr} (ks : List Nat) (R : Rel h₀ L rest S θ h) : Rel h₀ L rest ⟨S.loc, wkHp ks 0 S.hp⟩ θ h := by
  obtain ⟨os, m, F, N, D, l, O, V⟩ := R.is
  exact ⟨os, m, F, N, D, l, wkHp_ok 0 O, V⟩
/-- the names that are kept, in their order -/
noncomputable def keepL (loc : List (Str × AV)) : List Str → List (Str × AV)
  | [] => []
  | x :: r => match loc.lookup x with
    | some v => (x, v) :: keepL loc r
    | none => keepL loc r
theorem keepL_ok {loc : List (Str × AV)} : ∀ {names : List Str} {x : Str} {v : AV}, (keepL loc names).lookup x = some v → loc.lookup x = some v
  | y :: r, x, v, h => by
    unfold keepL at h
    cases hy : loc.lookup y with
    | none => rw [hy] at h; exact keepL_ok h
    | some w =>
      rw [hy] at h
      simp only [List.lookup_cons] at h
      by_cases hx : x = y
      · subst hx; rw [beq_self_eq_true] at h; cases h; exact hy
      · rw [beq_false_of_ne hx] at h; exact keepL_ok h
noncomputable def mapL (ρ : List Nat) (l : List (Str × AV)) : List (Str × AV) := l.map fun p => (p.1, mapV ρ p.2)
/-- the choice of handles is sound -/
noncomputable def chkS (n : Nat) (hp : List AO) (l : List (Str × AV)) (ρ : List Nat) : Bool :=
  decide (ρ.Nodup) && decide (ρ.take n = List.range n) && inAll ρ (l.flatMap fun p => refsV p.2) && ρ.all fun k => match hp[k]? with
    | some o => inAll ρ (refsO o) && goodO o
    | none => false
noncomputable def canonS (n : Nat) (hp : List AO) (l : List (Str × AV)) : List Nat := reach hp 200 (((hp.take n).flatMap refsO) ++ l.flatMap fun p => refsV p.2) (List.range n)
theorem mapL_ok {ρ : List Nat} : ∀ {l : List (Str × AV)} {x : Str} {v : AV}, inAll ρ (l.flatMap fun p => refsV p.2) = true → (mapL ρ l).lookup x = some v → ∃ w, l.lookup x = some w ∧ w = rnV ρ v ∧ okV ρ.length v = true
  | (y, w) :: r, x, v, hi, h => by
    have hj : inAll ρ (refsV w) = true ∧ inAll ρ (r.flatMap fun p => refsV p.2) = true := by
      unfold inAll at hi ⊢
      rw [List.flatMap_cons, List.all_append, Bool.and_eq_true] at hi
      exact hi
    simp only [mapL, List.map_cons, List.lookup_cons] at h ⊢
    by_cases hx : x = y
    · subst hx
      rw [beq_self_eq_true] at h ⊢
      cases h
      obtain ⟨a, b⟩ := mapV_ok hj.1
      exact ⟨w, rfl, a.symm, b⟩
    · rw [beq_false_of_ne hx] at h ⊢
      exact mapL_ok hj.2 h
theorem gc_canon {n : Nat} {S : AS} {l : List (Str × AV)} {ρ : List Nat} (hc : chkS n S.hp l ρ = true) (hl : ∀ x v, l.lookup x = some v → S.loc.lookup x = some v) : Gc n ρ S ⟨mapL ρ l, ρ.map fun k => mapO ρ ((S.hp[k]?).getD .gone)⟩ := by
  unfold chkS at hc
  simp only [Bool.and_eq_true, decide_eq_true_eq] at hc
  obtain ⟨⟨⟨nd, pre⟩, hv⟩, ho⟩ := hc
  have key : ∀ k ∈ ρ, ∃ o, S.hp[k]? = some o ∧ inAll ρ (refsO o) = true ∧ goodO o = true := fun k hk => by
    have := List.all_eq_true.mp ho k hk
    split at this
    · rename_i o e
      exact ⟨o, e, by simpa using this⟩
    · cases this
  refine Gc.of nd (fun i hi => ?_) ?_ ?_ fun x v e => ?_
  · have : (ρ.take n)[i]? = some i := by rw [pre, List.getElem?_range hi]
    rwa [List.getElem?_take_of_lt hi] at this
  · show (ρ.map fun k => S.hp[k]?) = (ρ.map fun k => mapO ρ ((S.hp[k]?).getD .gone)).map fun ao => some (rnO ρ ao)
    rw [List.map_map]
    refine List.map_congr_left fun k hk => ?_
    obtain ⟨o, e, h1, h2⟩ := key k hk
    simp only [Function.comp, e, Option.getD_some]
    rw [(mapO_ok h1 h2).1]
  · show (ρ.map fun k => mapO ρ ((S.hp[k]?).getD .gone)).all (okO ρ.length) = true
    rw [List.all_map]
    refine List.all_eq_true.mpr fun k hk => ?_
    obtain ⟨o, e, h1, h2⟩ := key k hk
    simp only [Function.comp, e, Option.getD_some]
    exact (mapO_ok h1 h2).2
  · obtain ⟨w, h1, rfl, h2⟩ := mapL_ok hv e
    exact ⟨hl x _ h1, h2⟩
noncomputable def gcRun (n : Nat) (hp : List AO) (l : List (Str × AV)) (ρ : List Nat) (P : AS → Prop) : Prop := vIf (chkS n hp l ρ) (fcS ⟨mapL ρ l, ρ.map fun k => mapO ρ ((hp[k]?).getD .gone)⟩ P)
/-- a state, its garbage forgotten: cells ks without their contents, the names that are kept -/
noncomputable def GcE (n : Nat) (ks : List Nat) (names : List Str) (S : AS) (P : AS → Prop) : Prop := fcH (wkHp ks 0 S.hp) fun hp => fcL (keepL S.loc names) fun l => fcNs (canonS n hp l) fun ρ => gcRun n hp l ρ P
theorem GcE.gc {n : Nat} {ks : List Nat} {names : List Str} {S : AS} {P : AS → Prop} (h : GcE n ks names S P) : ∃ ρ S₀, Gc n ρ ⟨S.loc, wkHp ks 0 S.hp⟩ S₀ ∧ P S₀ := by
  have h := fcNs_ok (fcL_ok (P := fun l => fcNs (canonS n (wkHp ks 0 S.hp) l) fun ρ => gcRun n (wkHp ks 0 S.hp) l ρ P) (fcH_ok (P := fun hp => fcL (keepL S.loc names) fun l => fcNs (canonS n hp l) fun ρ => gcRun n hp l ρ P) h))
  obtain ⟨hc, hP⟩ := vIf_ok h
  exact ⟨_, _, gc_canon (S := ⟨S.loc, wkHp ks 0 S.hp⟩) hc (fun x v e => keepL_ok e), fcS_ok hP⟩
section
variable {X : Cx} {V : VC} {env env' : Env} {r : Nat} {S : AS}
theorem TK_gcE {α β : Type} {W : List Addr → β → α → Prop} {t : Sem α} {K : β → AS → Prop} {n : Nat} (ks : List Nat) (names : List Str) (hn : X.θ₀.length = n) (h : GcE n ks names S fun S₀ => TrK X W t S₀ K) : TrK X W t S K := by
  obtain ⟨ρ, S₀, g, h⟩ := h.gc
  exact fun θ s E Q R p k => h _ s E Q ((R.wkL ks).gc g.nd g.len g.hS g.hl) (g.pre' hn p) k
noncomputable def noRet : AF → Bool
  | .ret _ => false
  | _ => true
/-- an end of a turn: a flow that holds no value, garbage forgotten -/
noncomputable def EndN (n : Nat) (ks : List Nat) (names : List Str) (K : AF → AS → Prop) (f : AF) (S : AS) : Prop := vIf (noRet f) (GcE n ks names S fun S₀ => K f S₀)
theorem TK_endN {t : Sem Flow} {K : AF → AS → Prop} {n : Nat} (ks : List Nat) (names : List Str) (hn : X.θ₀.length = n) (h : TrK X FR t S (EndN n ks names K)) : TrK X FR t S K := fun θ s E Q R p k => h θ s E Q R p fun f S' θ' h' tk' a kb R' p' v => by
  obtain ⟨hf, kb⟩ := vIf_ok kb
  obtain ⟨ρ, S₀, g, k0⟩ := kb.gc
  refine k f S₀ _ h' tk' a k0 ((R'.wkL ks).gc g.nd g.len g.hS g.hl) (g.pre' hn p') ?_
  cases v with
  | ret _ => cases hf
  | next => exact .next
  | brk => exact .brk
  | cont => exact .cont
/-- behind the first statements -/
noncomputable def afterP (X : Cx) (env : Env) (post : List Stmt) (K : AF → AS → Prop) : AF → AS → Prop
  | .next, S => TrK X FR (execs post env) S K
  | .brk, S => K .brk S
  | .cont, S => K .cont S
  | .ret v, S => K (.ret v) S
theorem TK_preK {K K1 : AF → AS → Prop} (f : Nat) (h : VEnv X V env) (Fm : Fram X env' (r + 1)) {post : List Stmt} (hK : ∀ fl S, K1 fl S → afterP X env post K fl S) : ∀ {pre : List Stmt} {S : AS}, vStmts (orc f) V pre S K1 → TrK X FR (execs (pre ++ post) env) S K
  | [], S, hv => hK .next S hv
  | st :: pre, S, hv => TK_step ((vStmt_ok (orc_ok f) h Fm hv).mono fun fl S1 h1 => by
    cases fl with
    | next => exact TK_preK f h Fm hK (fcS_ok (show fcS S1 fun S1 => vStmts (orc f) V pre S1 K1 from h1))
    | brk => exact hK _ _ h1
    | cont => exact hK _ _ h1
    | ret v => exact hK _ _ h1)
/-- the same, garbage forgotten behind them -/
noncomputable def afterG (X : Cx) (env : Env) (n : Nat) (ks : List Nat) (names : List Str) (post : List Stmt) (K : AF → AS → Prop) : AF → AS → Prop
  | .next, S => GcE n ks names S fun S₀ => TrK X FR (execs post env) S₀ K
  | .brk, S => K .brk S
  | .cont, S => K .cont S
  | .ret v, S => K (.ret v) S
theorem TK_preG {K : AF → AS → Prop} (f : Nat) {n : Nat} (ks : List Nat) (names : List Str) (hn : X.θ₀.length = n) (h : VEnv X V env) (Fm : Fram X env' (r + 1)) {post : List Stmt} {pre : List Stmt} (hv : vStmts (orc f) V pre S (afterG X env n ks names post K)) : TrK X FR (execs (pre ++ post) env) S K := TK_preK f h Fm (fun fl S1 h1 => by
    cases fl with
    | next => exact TK_gcE ks names hn h1
    | brk => exact h1
    | cont => exact h1
    | ret v => exact h1) hv
/-- the same, where nothing else can come -/
noncomputable def afterN (X : Cx) (env : Env) (n : Nat) (ks : List Nat) (names : List Str) (post : List Stmt) (K : AF → AS → Prop) (f : AF) (S : AS) : Prop := match f with
  | .next => GcE n ks names S fun S₀ => TrK X FR (execs post env) S₀ K
  | _ => False
theorem TK_preN {K : AF → AS → Prop} (f : Nat) {n : Nat} (ks : List Nat) (names : List Str) (hn : X.θ₀.length = n) (h : VEnv X V env) (Fm : Fram X env' (r + 1)) {post : List Stmt} {pre : List Stmt} (hv : vStmts (orc f) V pre S (afterN X env n ks names post K)) : TrK X FR (execs (pre ++ post) env) S K := TK_preK f h Fm (fun fl S1 h1 => by
    cases fl with
    | next => exact TK_gcE ks names hn h1
    | brk => exact h1.elim
    | cont => exact h1.elim
    | ret v => exact h1.elim) hv
theorem ev {P Q : Prop} (e : Q = P) (h : P) : Q := e ▸ h
/-- the least of some, told by the branches that look for it -/
noncomputable def leastP (E : Prop) : Option (Int × Prop) → List (Int × Prop) → Prop
  | none, [] => E
  | some p, [] => p.2
  | none, p :: r => vBr (decide ((0 : Int) < (p.1.natAbs : Int))) (leastP E (some p) r) (leastP E none r)
  | some q, p :: r => vBr (decide ((0 : Int) < (p.1.natAbs : Int))) (vBr (decide ((p.1.natAbs : Int) < (q.1.natAbs : Int))) (leastP E (some p) r) (leastP E (some q) r)) (leastP E (some q) r)
theorem na_nz {x : Int} (h : decide ((0 : Int) < (x.natAbs : Int)) = true) : x ≠ 0 := by have := of_decide_eq_true h; omega
theorem na_z {x : Int} (h : decide ((0 : Int) < (x.natAbs : Int)) = false) : x = 0 := by have := of_decide_eq_false h; omega
theorem na_ge {x y : Int} (h : decide ((x.natAbs : Int) < (y.natAbs : Int)) = false) : y.natAbs ≤ x.natAbs := by have := of_decide_eq_false h; omega
theorem na_lt {x y : Int} (h : decide ((x.natAbs : Int) < (y.natAbs : Int)) = true) : x.natAbs ≤ y.natAbs := by have := of_decide_eq_true h; omega
theorem leastP_ok {E : Prop} : ∀ (l : List (Int × Prop)) (f : Option (Int × Prop)), (f = none → (∀ p ∈ l, p.1 = 0) → E) → (∀ p, f = some p → p.1 ≠ 0) → (∀ p ∈ f.toList ++ l, p.1 ≠ 0 → (∀ q ∈ f.toList ++ l, q.1 = 0 ∨ p.1.natAbs ≤ q.1.natAbs) → p.2) → leastP E f l
  | [], none, hE, _, _ => hE rfl fun _ h => by cases h
  | [], some p, _, hf, H => H p (.head _) (hf p rfl) fun q hq => by
    rcases List.mem_cons.mp hq with rfl | h
    · exact .inr (Nat.le_refl _)
    · cases h
  | p :: r, none, hE, hf, H => vBr_i
    (fun h => leastP_ok r (some p) (fun e => by cases e) (fun q e => by cases e; exact na_nz h) H)
    (fun h => by
      have h0 : p.1 = 0 := na_z h
      refine leastP_ok r none (fun _ hr => hE rfl fun q hq => ?_) (fun _ e => by cases e) fun q hq nz hm => H q (.tail _ hq) nz fun u hu => ?_
      · rcases List.mem_cons.mp hq with rfl | hq
        · exact h0
        · exact hr q hq
      · rcases List.mem_cons.mp hu with rfl | hu
        · exact .inl h0
        · exact hm u hu)
  | p :: r, some q, hE, hf, H => by
    have hq0 := hf q rfl
    have keep : (p.1 = 0 ∨ q.1.natAbs ≤ p.1.natAbs) → leastP E (some q) r := fun hp => leastP_ok r (some q) (fun e => by cases e) hf fun u hu nz hm => H u (by
      rcases List.mem_cons.mp hu with rfl | hu
      · exact .head _
      · exact .tail _ (.tail _ hu)) nz fun w hw => by
        rcases List.mem_cons.mp hw with rfl | hw
        · exact hm _ (.head _)
        · rcases List.mem_cons.mp hw with rfl | hw
          · rcases hp with hp | hp
            · exact .inl hp
            · exact .inr (Nat.le_trans ((hm q (.head _)).resolve_left hq0) hp)
          · exact hm _ (.tail _ hw)
    refine vBr_i (fun h => vBr_i (fun h2 => ?_) fun h2 => keep (.inr (na_ge h2))) fun h => keep (.inl (na_z h))
    refine leastP_ok r (some p) (fun e => by cases e) (fun u e => by cases e; exact na_nz h) fun u hu nz hm => H u (.tail _ hu) nz fun w hw => ?_
    rcases List.mem_cons.mp hw with rfl | hw
    · exact .inr (Nat.le_trans ((hm p (.head _)).resolve_left (na_nz h)) (na_lt h2))
    · exact hm w hw
end
end
noncomputable section
theorem TrLs.mono {X : Cx} {f : List Value → Sem Value} {vs : List AV} {S : AS} {K K' : AV → AS → Prop} (h : TrLs X VR f vs S K) (hk : ∀ v S, K v S → K' v S) : TrLs X VR f vs S K' := fun θ s E Q cs R p v k => h θ s E Q cs R p v fun b S' θ' h' tk' a kb => k b S' θ' h' tk' a (hk b S' kb)
/-- a contract on a small heap, of its own handles -/
abbrev Con0 := List AV → List AO → (AV → List AO → Prop) → Prop
noncomputable def COK (r : Nat) (fa : Addr) (C : Con0) : Prop := ∀ {X : Cx} {env : Env} {l : List (Str × AV)} {vs : List AV} {hp : List AO} {K0 : AV → AS → Prop}, Fram X env r → C vs hp (fun v hp' => K0 v ⟨l, hp'⟩) → TrLs X VR (callF (.ref fa)) vs ⟨l, hp⟩ K0
/-- the choice of handles that a call sees -/
noncomputable def chk0 (hp : List AO) (vs : List AV) (ρ : List Nat) : Bool := decide (ρ.Nodup) && inAll ρ (vs.flatMap refsV) && ρ.all fun k => match hp[k]? with
    | some o => inAll ρ (refsO o) && goodO o
    | none => false
/-- what a contract tells, put back into the caller's heap -/
noncomputable def selK (S : AS) (ρ : List Nat) (K : AV → AS → Prop) (v : AV) (hp' : List AO) : Prop := fcNs (nw S.hp.length ρ.length ρ hp') fun nn => fcS ⟨S.loc, updl S.hp ρ ((hp'.take ρ.length).map (rnO nn)) ++ (hp'.drop ρ.length).map (rnO nn)⟩ fun S' => fcV (rnV nn v) fun v => K v S'
noncomputable def selR (C : Con0) (vs : List AV) (S : AS) (K : AV → AS → Prop) (ρ : List Nat) : Prop := vIf (chk0 S.hp vs ρ) (fcVs (vs.map (mapV ρ)) fun vs₀ => fcH (ρ.map fun k => mapO ρ ((S.hp[k]?).getD .gone)) fun hp₀ => C vs₀ hp₀ fun v hp' => vIf (hp'.all (okO hp'.length)) (selK S ρ K v hp'))
/-- a contract used: the part of the heap that the arguments reach -/
noncomputable def sel (C : Con0) : Spec := fun vs S K => fcNs (reach S.hp 200 (vs.flatMap refsV) []) fun ρ => selR C vs S K ρ
theorem selR_ok {r : Nat} {fa : Addr} {C : Con0} (h : COK r fa C) {X : Cx} {env : Env} (Fm : Fram X env r) {vs : List AV} {S : AS} {K : AV → AS → Prop} {ρ : List Nat} (hs : selR C vs S K ρ) : TrLs X VR (callF (.ref fa)) vs S K := by
  obtain ⟨hc, hs⟩ := vIf_ok hs
  have hs := fcH_ok (P := fun hp₀ => C (vs.map (mapV ρ)) hp₀ fun v hp' => vIf (hp'.all (okO hp'.length)) (selK S ρ K v hp')) (fcVs_ok (P := fun vs₀ => fcH (ρ.map fun k => mapO ρ ((S.hp[k]?).getD .gone)) fun hp₀ => C vs₀ hp₀ fun v hp' => vIf (hp'.all (okO hp'.length)) (selK S ρ K v hp')) hs)
  unfold chk0 at hc
  simp only [Bool.and_eq_true, decide_eq_true_eq] at hc
  obtain ⟨⟨nd, hv⟩, ho⟩ := hc
  have key : ∀ k ∈ ρ, ∃ o, S.hp[k]? = some o ∧ inAll ρ (refsO o) = true ∧ goodO o = true := fun k hk => by
    have := List.all_eq_true.mp ho k hk
    split at this
    · rename_i o e
      exact ⟨o, e, by simpa using this⟩
    · cases this
  obtain ⟨a, b⟩ := mapVs_ok hv
  have e1 : (ρ.map fun k => S.hp[k]?) = (ρ.map fun k => mapO ρ ((S.hp[k]?).getD .gone)).map fun ao => some (rnO ρ ao) := by
    rw [List.map_map]
    refine List.map_congr_left fun k hk => ?_
    obtain ⟨o, e, h1, h2⟩ := key k hk
    simp only [Function.comp, e, Option.getD_some]
    rw [(mapO_ok h1 h2).1]
  have e2 : (ρ.map fun k => mapO ρ ((S.hp[k]?).getD .gone)).all (okO ρ.length) = true := by
    rw [List.all_map]
    refine List.all_eq_true.mpr fun k hk => ?_
    obtain ⟨o, e, h1, h2⟩ := key k hk
    simp only [Function.comp, e, Option.getD_some]
    exact (mapO_ok h1 h2).2
  rw [← a]
  refine T_sel (K' := fun v hp => selK S ρ K v hp) nd (sel_of e1 e2).1 (sel_of e1 e2).2 b (fun rest' θ₁ l => ?_) fun v hp' hk => ?_
  · refine TrLs.mono (h (l := l) (K0 := fun v S' => S'.loc = l ∧ vIf (S'.hp.all (okO S'.hp.length)) (selK S ρ K v S'.hp)) (Fram.part Fm) ?_) fun v S' hk => ⟨hk.1, vIf_ok hk.2⟩
    have e : (fun (v : AV) (hp' : List AO) => (l = l ∧ vIf (hp'.all (okO hp'.length)) (selK S ρ K v hp'))) = fun v hp' => vIf (hp'.all (okO hp'.length)) (selK S ρ K v hp') := by
      funext v hp'
      exact propext (and_iff_right rfl)
    show C _ _ fun (v : AV) (hp' : List AO) => (l = l ∧ vIf (hp'.all (okO hp'.length)) (selK S ρ K v hp'))
    rw [e]
    exact hs
  · have h1 := fcNs_ok hk
    exact fcV_ok (fcS_ok h1)
theorem sel_ok {r : Nat} {fa : Addr} {C : Con0} (h : COK r fa C) : FOk r fa (sel C) := fun Fm _ _ _ hs => selR_ok h Fm (fcNs_ok hs)
-- contracts' shapes
/-- a list's items, all handles, one behind the other -/
noncomputable def seqR : Nat → List AV → Bool
  | _, [] => true
  | n, v :: r => (match v with
    | .ref k => k == n
    | _ => false) && seqR (n + 1) r
theorem seqR_ok : ∀ {l : List AV} {n : Nat}, seqR n l = true → l = (List.range' n l.length).map .ref
  | [], _, _ => rfl
  | v :: r, n, h => by
    unfold seqR at h
    rw [Bool.and_eq_true] at h
    cases v with
    | ref k =>
      have h1 : k = n := beq_iff_eq.mp h.1
      subst h1
      rw [List.length_cons, List.range'_succ, List.map_cons, ← seqR_ok h.2]
    | _ => first | exact ff_tt h.1 | exact nn_ss h.1 | cases h.1
noncomputable def pair? (l : List Int) : Option (Int × Int) := match l with
  | [] => none
  | a :: r => match r with
    | [] => none
    | b :: r => match r with
      | [] => some (a, b)
      | _ :: _ => none
theorem pair?_ok {l : List Int} {p : Int × Int} (h : pair? l = some p) : l = [p.1, p.2] := by
  cases l with
  | nil => cases h
  | cons a r => cases r with
    | nil => cases h
    | cons b r => cases r with
      | nil => cases h; rfl
      | cons _ _ => cases h
theorem ints?_map : ∀ {vs : List AV} {ns : List Int}, ints? vs = some ns → vs = ns.map AV.int
  | [], ns, h => by cases h; rfl
  | v :: r, ns, h => by
    cases v with
    | int x =>
      have h : (ints? r).map (x :: ·) = some ns := by rw [← h]; rfl
      obtain ⟨ms, h1, rfl⟩ := Option.map_eq_some_iff.mp h
      rw [ints?_map h1, List.map_cons]
    | _ => cases h
noncomputable def rowO (o : AO) : Option (Int × Int) := (lstO o).bind fun vs => (ints? vs).bind pair?
theorem rowO_ok {o : AO} {p : Int × Int} (h : rowO o = some p) : o = .lst [.int p.1, .int p.2] := by
  obtain ⟨vs, h1, h2⟩ := Option.bind_eq_some_iff.mp h
  obtain ⟨ns, h3, h4⟩ := Option.bind_eq_some_iff.mp h2
  rw [lstO_ok h1, ints?_map h3, pair?_ok h4]; rfl
/-- a matrix of one row or two, of two columns, what lies behind it -/
noncomputable def mat (hp : List AO) (P1 : Int × Int → List AO → Prop) (P2 : Int × Int → Int × Int → List AO → Prop) : Prop := match hp with
  | [] => False
  | o :: hp => vOpt (lstO o) fun rs => vIf (seqR 1 rs) (match rs with
    | [] => False
    | _ :: rs => match hp with
      | [] => False
      | o1 :: hp => vOpt (rowO o1) fun p => match rs with
        | [] => P1 p hp
        | _ :: rs => match rs with
          | _ :: _ => False
          | [] => match hp with
            | [] => False
            | o2 :: hp => vOpt (rowO o2) fun q => P2 p q hp)
theorem mat_ok {hp : List AO} {P1 : Int × Int → List AO → Prop} {P2 : Int × Int → Int × Int → List AO → Prop} (h : mat hp P1 P2) : (∃ a r, hp = .lst [.ref 1] :: .lst [.int a.1, .int a.2] :: r ∧ P1 a r) ∨ ∃ a b r, hp = .lst [.ref 1, .ref 2] :: .lst [.int a.1, .int a.2] :: .lst [.int b.1, .int b.2] :: r ∧ P2 a b r := by
  cases hp with
  | nil => exact h.elim
  | cons o hp =>
    obtain ⟨rs, e1, h⟩ := vOpt_ok (show vOpt (lstO o) _ from h)
    obtain ⟨e2, h⟩ := vIf_ok h
    cases rs with
    | nil => exact h.elim
    | cons v1 rs => cases hp with
      | nil => exact h.elim
      | cons o1 hp =>
        obtain ⟨a, e3, h⟩ := vOpt_ok (show vOpt (rowO o1) _ from h)
        cases rs with
        | nil => exact .inl ⟨a, hp, by rw [lstO_ok e1, rowO_ok e3, seqR_ok e2]; rfl, h⟩
        | cons v2 rs => cases rs with
          | cons _ _ => exact h.elim
          | nil => cases hp with
            | nil => exact h.elim
            | cons o2 hp =>
              obtain ⟨b, e4, h⟩ := vOpt_ok (show vOpt (rowO o2) _ from h)
              exact .inr ⟨a, b, hp, by rw [lstO_ok e1, rowO_ok e3, rowO_ok e4, seqR_ok e2]; rfl, h⟩
/-- what lies behind a matrix: one list of one int, of two -/
noncomputable def beh1 (r : List AO) (P : Int → Prop) : Prop := match r with
  | [] => False
  | o :: r => vOpt (lstO o) fun ws => vOpt (one? ws) fun w => vInt w fun x => vIf r.isEmpty (P x)
noncomputable def beh2 (r : List AO) (P : Int × Int → Prop) : Prop := match r with
  | [] => False
  | o :: r => vOpt (rowO o) fun w => vIf r.isEmpty (P w)
theorem beh1_ok {r : List AO} {P : Int → Prop} (h : beh1 r P) : ∃ x, r = [.lst [.int x]] ∧ P x := by
  cases r with
  | nil => exact h.elim
  | cons o r =>
    obtain ⟨ws, e1, h⟩ := vOpt_ok (show vOpt (lstO o) _ from h)
    obtain ⟨w, e2, h⟩ := vOpt_ok h
    obtain ⟨x, e3, h⟩ := vInt_ok h
    obtain ⟨e4, h⟩ := vIf_ok h
    exact ⟨x, by rw [lstO_ok e1, one?_ok e2, e3, List.isEmpty_iff.mp e4], h⟩
theorem beh2_ok {r : List AO} {P : Int × Int → Prop} (h : beh2 r P) : ∃ w, r = [.lst [.int w.1, .int w.2]] ∧ P w := by
  cases r with
  | nil => exact h.elim
  | cons o r =>
    obtain ⟨w, e1, h⟩ := vOpt_ok (show vOpt (rowO o) _ from h)
    obtain ⟨e4, h⟩ := vIf_ok h
    exact ⟨w, by rw [rowO_ok e1, List.isEmpty_iff.mp e4], h⟩
end
noncomputable section
section
variable {X : Cx} {V : VC} {env env' : Env} {r : Nat} {S : AS}
theorem VEnv.at {θ : List Addr} (p : X.θ₀ <+: θ) (h : VEnv X V env) : VEnv (X.at θ) V env where
  kind := h.kind
  glo := h.glo
  bui := h.bui
  nam := h.nam
  cel := h.cel.ca_mono p
  loc := by
    rcases h.loc with h1 | ⟨k, scope, C, env0, h1, h2, h3⟩
    · exact .inl h1
    · exact .inr ⟨k, scope, C, env0, h1, h2, pre_get p h3⟩
  w := h.w.at p
theorem VEnv.storeA (h : VEnv X V env) {x : Str} {j : Nat} {v : AV} {K : AS → Prop} (hx : V.kinds.lookup x = some .cell) (hn : V.ns = none) (hj : V.cells.lookup x = some j) (e : S.hp[j]? = some .acell) (hK : K (S.put j (.cell (some v)))) : Tr1 X (fun _ _ _ => True) (storeName env x) v S (fun (_ : Unit) S' => K S') := vStore_ok h (by
  unfold vStore
  simp only [hx, hn, hj, e]
  exact hK)
theorem VEnv.rangeN (h : VEnv X V env) {x : Str} {j : Nat} {n : Int} {p1 p2 p3 : Pos} {K : Nat → AS → Prop} (hg : V.gl.lookup (Str.ofString "range") = some .range) (hx : V.kinds.lookup x = some .cell) (hb : (x == ("__debug__" : Str) || x == ("__classdict__" : Str)) = false) (hj : V.cells.lookup x = some j) (h0 : 0 ≤ n) (h1 : n < 2 ^ 62) (e : S.hp[j]? = some (.cell (some (.int n)))) (hK : K S.hp.length (S.new (.ri 0 (n - 0)))) : TrIt X (.Call (.Name (Str.ofString "range") p1) [.Name x p2] [] p3) env S K :=
  TIt_range1 (h.gok _ _ hg) (h.ec.name (by unfold EC.look VC.ec; simp only [hb, hx, hj, e]; rfl) ⟨n, rfl, h0, h1, hK⟩)
end
theorem updl_same {α : Type} : ∀ (ρ : List Nat) (l as : List α), (∀ (i k : Nat) (a : α), ρ[i]? = some k → as[i]? = some a → l[k]? = some a) → updl l ρ as = l
  | [], l, as, _ => by cases as <;> rfl
  | _ :: _, l, [], _ => rfl
  | k :: ρ, l, a :: as, h => by
    have h0 := h 0 k a rfl rfl
    have e : l.set k a = l := by
      refine List.ext_getElem? fun j => ?_
      by_cases hj : k = j
      · subst hj; rw [List.getElem?_set_self (List.getElem?_eq_some_iff.mp h0).1, h0]
      · rw [List.getElem?_set_ne hj]
    rw [updl, e]
    exact updl_same ρ l as fun i k' a' h1 h2 => h (i + 1) k' a' h1 h2
/-- a contract that leaves the heap as it is -/
abbrev Con1 := List AV → List AO → (AV → Prop) → Prop
noncomputable def COK1 (r : Nat) (fa : Addr) (C : Con1) : Prop := ∀ {X : Cx} {env : Env} {l : List (Str × AV)} {vs : List AV} {hp : List AO} {K0 : AV → AS → Prop}, Fram X env r → C vs hp (fun v => K0 v ⟨l, hp⟩) → TrLs X VR (callF (.ref fa)) vs ⟨l, hp⟩ K0
noncomputable def isInt : AV → Bool
  | .int _ => true
  | _ => false
noncomputable def selR1 (C : Con1) (vs : List AV) (S : AS) (K : AV → AS → Prop) (ρ : List Nat) : Prop := vIf (chk0 S.hp vs ρ) (fcVs (vs.map (mapV ρ)) fun vs₀ => fcH (ρ.map fun k => mapO ρ ((S.hp[k]?).getD .gone)) fun hp₀ => C vs₀ hp₀ fun v => vIf (isInt v) (K v S))
noncomputable def sel1 (C : Con1) : Spec := fun vs S K => fcNs (reach S.hp 200 (vs.flatMap refsV) []) fun ρ => selR1 C vs S K ρ
theorem sel1_ok {r : Nat} {fa : Addr} {C : Con1} (h : COK1 r fa C) : FOk r fa (sel1 C) := fun {X env} Fm vs S K hs => by
  replace hs := fcNs_ok hs
  generalize reach S.hp 200 (vs.flatMap refsV) [] = ρ at hs
  obtain ⟨hc, hs⟩ := vIf_ok hs
  have hs := fcH_ok (P := fun hp₀ => C (vs.map (mapV ρ)) hp₀ fun v => vIf (isInt v) (K v S)) (fcVs_ok (P := fun vs₀ => fcH (ρ.map fun k => mapO ρ ((S.hp[k]?).getD .gone)) fun hp₀ => C vs₀ hp₀ fun v => vIf (isInt v) (K v S)) hs)
  unfold chk0 at hc
  simp only [Bool.and_eq_true, decide_eq_true_eq] at hc
  obtain ⟨⟨nd, hv⟩, ho⟩ := hc
  have key : ∀ k ∈ ρ, ∃ o, S.hp[k]? = some o ∧ inAll ρ (refsO o) = true ∧ goodO o = true := fun k hk => by
    have := List.all_eq_true.mp ho k hk
    split at this
    · rename_i o e
      exact ⟨o, e, by simpa using this⟩
    · cases this
  obtain ⟨a, b⟩ := mapVs_ok hv
  have e1 : (ρ.map fun k => S.hp[k]?) = (ρ.map fun k => mapO ρ ((S.hp[k]?).getD .gone)).map fun ao => some (rnO ρ ao) := by
    rw [List.map_map]
    refine List.map_congr_left fun k hk => ?_
    obtain ⟨o, e, h1, h2⟩ := key k hk
    simp only [Function.comp, e, Option.getD_some]
    rw [(mapO_ok h1 h2).1]
  have e2 : (ρ.map fun k => mapO ρ ((S.hp[k]?).getD .gone)).all (okO ρ.length) = true := by
    rw [List.all_map]
    refine List.all_eq_true.mpr fun k hk => ?_
    obtain ⟨o, e, h1, h2⟩ := key k hk
    simp only [Function.comp, e, Option.getD_some]
    exact (mapO_ok h1 h2).2
  have hl : ρ.length = (ρ.map fun k => mapO ρ ((S.hp[k]?).getD .gone)).length := by rw [List.length_map]
  have hsel := sel_of e1 e2
  revert hs hsel hl
  generalize (ρ.map fun k => mapO ρ ((S.hp[k]?).getD .gone)) = hp₀ at e1 e2
  intro hs hl hsel
  rw [← a]
  refine T_sel (K' := fun v hp => hp = hp₀ ∧ vIf (isInt v) (K v S)) nd hsel.1 hsel.2 b (fun rest' θ₁ l => ?_) fun v hp' hk => ?_
  · refine TrLs.mono (h (l := l) (K0 := fun v S' => S' = ⟨l, hp₀⟩ ∧ vIf (isInt v) (K v S)) (Fram.part Fm) ?_) fun v S' hk => ?_
    · have e : (fun (v : AV) => ((⟨l, hp₀⟩ : AS) = ⟨l, hp₀⟩ ∧ vIf (isInt v) (K v S))) = fun v => vIf (isInt v) (K v S) := by
        funext v
        exact propext (and_iff_right rfl)
      rw [e]
      exact hs
    · obtain ⟨rfl, hk⟩ := hk
      exact ⟨rfl, hl ▸ e2, rfl, hk⟩
  · obtain ⟨rfl, hk⟩ := hk
    obtain ⟨hi, hk⟩ := vIf_ok hk
    cases v with
    | int x =>
      have hn : nw S.hp.length ρ.length ρ hp' = ρ := by
        unfold nw
        rw [hl, Nat.sub_self]; simp
      have e : mrg S ρ hp' = S := by
        unfold mrg
        rw [hn, hl, List.take_length, List.drop_length, List.map_nil, List.append_nil]
        rw [updl_same]
        intro i k a h1 h2
        rw [List.getElem?_map] at h2
        obtain ⟨o, h3, rfl⟩ := Option.map_eq_some_iff.mp h2
        exact (hsel.2 i k o h1 h3).1
      rw [e]
      exact hk
    | _ => first | exact ff_tt hi | exact nn_ss hi | cases hi
end
noncomputable section
noncomputable def fnC : List (Str × Spec) := [(Str.ofString "least_spot", s_least), (Str.ofString "bring", s_bring), (Str.ofString "clear_cross", s_clear), (Str.ofString "undivided_row", s_undiv), (Str.ofString "unit_rows", s_unit)]
theorem fnC_ok : FNs 3 fnC := FNs.cons 58 (fun p => by k_is) (fun p => by first | rfl | k_is) (by decide) (FOk.le (by decide) ok_least) (FNs.cons 72 (fun p => by k_is) (fun p => by first | rfl | k_is) (by decide) ok_bring (FNs.cons 77 (fun p => by k_is) (fun p => by first | rfl | k_is) (by decide) (FOk.le (by decide) ok_clear) (FNs.cons 82 (fun p => by k_is) (fun p => by first | rfl | k_is) (by decide) (FOk.le (by decide) ok_undiv) (FNs.cons 46 (fun p => by k_is) (fun p => by first | rfl | k_is) (by decide) (FOk.le (by decide) ok_unit) FNs.nil))))
/-- the parts of smith_form -/
structure SmB where
  a1 : Stmt
  a2 : Stmt
  t : Expr
  b1 : Stmt
  b2 : Stmt
  b3 : Stmt
  tl : List Stmt
  pos : Pos
  post : List Stmt
  eq : P_smith.body = [a1, a2] ++ (.While t ([b1, b2, b3] ++ tl) [] pos :: post)
noncomputable def smB : SmB := ⟨_, _, _, _, _, _, _, _, _, rfl⟩
noncomputable def smV (n : Nat) : VC := ⟨P_smith.scope.names, numb n (cellNs P_smith.scope.names), none, GBS, fnC⟩
noncomputable def smN : List Str := [Str.ofString "step", Str.ofString "s", Str.ofString "u", Str.ofString "v", Str.ofString "width"]

theorem sq_ok {a b : Int} (h : Sm a) : IntMulOk a b := IntMulOk.of_left h
section
variable {X : Cx} {env : Env} {r : Nat} {b0 b1 b2 b3 : Int}
/-- the branches behind clear_cross: what they ask is told -/
noncomputable def tailP (x0 X1 X2 f : Int) (CONT ADD NX NG : Prop) : Prop := vBr (X2 == 0) (vBr (!(X1 == 0)) CONT (x0 ≠ 0 ∧ vBr (f != 0) ADD (vBr (decide (x0 < 0)) NG NX))) (vBr (!(X2 == 0)) CONT (x0 ≠ 0 ∧ vBr (f != 0) ADD (vBr (decide (x0 < 0)) NG NX)))
theorem tailP_ok {x0 X1 X2 f : Int} {CONT ADD NX NG : Prop} (h0 : x0 ≠ 0) (h1 : X2 ≠ 0 → CONT) (h2 : X2 = 0 → X1 ≠ 0 → CONT) (h3 : X2 = 0 → X1 = 0 → f ≠ 0 → ADD) (h4 : X2 = 0 → X1 = 0 → f = 0 → ¬ x0 < 0 → NX) (h5 : X2 = 0 → X1 = 0 → f = 0 → x0 < 0 → NG) : tailP x0 X1 X2 f CONT ADD NX NG :=
  vBr_i (fun e => vBr_i (fun e1 => h2 (beq_iff_eq.mp e) (by simpa using e1)) fun e1 => ⟨h0, vBr_i (fun e2 => h3 (beq_iff_eq.mp e) (by simpa using e1) (by simpa using e2)) fun e2 => vBr_i (fun e3 => h5 (beq_iff_eq.mp e) (by simpa using e1) (by simpa using e2) (of_decide_eq_true e3)) fun e3 => h4 (beq_iff_eq.mp e) (by simpa using e1) (by simpa using e2) (of_decide_eq_false e3)⟩)
    fun e => vBr_i (fun _ => h1 (by simpa using e)) fun e1 => absurd e1 (by rw [e]; decide)
theorem sm_test2 (I : InF P_smith (r + 3) 3 X env) (st : Int) (b : Bool) (h : ∀ {x0 x1 x2 x3 y0 y1 y2 y3 z0 z1 z2 z3 : Int} {K : Bool → AS → Prop}, vTest (orc 60) (smV 3) smB.t (SH2 none none b0 b1 b2 b3 x0 x1 x2 x3 y0 y1 y2 y3 z0 z1 z2 z3 st) K = K b (SH2 none none b0 b1 b2 b3 x0 x1 x2 x3 y0 y1 y2 y3 z0 z1 z2 z3 st)) : TestT2 X env smB.t b0 b1 b2 b3 st b := fun cb cr _ _ _ _ _ _ _ _ _ _ _ _ K hK =>
  TK_of (vTest_ok (orc_ok 60) (I.V (FNs.le (by omega) fnC_ok)) I.Fm (ev h hK))
theorem sm_tail2 (I : InF P_smith (r + 3) 3 X env) : TailT2 X env smB.tl b0 b1 b2 b3 := fun cb cr x0 x1 x2 x3 y0 y1 y2 y3 z0 z1 z2 z3 K h0 s0 s1 s2 k1 k2 k3 k4 k5 => by
  refine TK_endN [3, 4] smN I.hθ (TK_v 60 (I.V (FNs.le (by omega) fnC_ok)) I.Fm ?_)
  refine ev (P := (x0 ≠ 0 ∧ Sm x0) ∧ IntMulOk (x2.fdiv x0) x0 ∧ IntMulOk (x2.fdiv x0) x1 ∧ IntMulOk (x2.fdiv x0) y0 ∧ IntMulOk (x2.fdiv x0) y1 ∧ (x0 ≠ 0 ∧ Sm x0) ∧ IntMulOk (x1.fdiv x0) x0 ∧ IntMulOk (x1.fdiv x0) (x2 - (x2.fdiv x0) * x0) ∧ IntMulOk (x1.fdiv x0) z0 ∧ IntMulOk (x1.fdiv x0) z2 ∧ tailP x0 (x1 - (x1.fdiv x0) * x0) (x2 - (x2.fdiv x0) * x0) ((x3 - (x2.fdiv x0) * x1 - (x1.fdiv x0) * (x2 - (x2.fdiv x0) * x0)).fmod x0) (K .cont (SH2 none none b0 b1 b2 b3 x0 (x1 - (x1.fdiv x0) * x0) (x2 - (x2.fdiv x0) * x0) (x3 - (x2.fdiv x0) * x1 - (x1.fdiv x0) * (x2 - (x2.fdiv x0) * x0)) y0 y1 (y2 - (x2.fdiv x0) * y0) (y3 - (x2.fdiv x0) * y1) z0 (z1 - (x1.fdiv x0) * z0) z2 (z3 - (x1.fdiv x0) * z2) 0)) (K .cont (SH2 none none b0 b1 b2 b3 (x0 + (x2 - (x2.fdiv x0) * x0)) ((x1 - (x1.fdiv x0) * x0) + (x3 - (x2.fdiv x0) * x1 - (x1.fdiv x0) * (x2 - (x2.fdiv x0) * x0))) (x2 - (x2.fdiv x0) * x0) (x3 - (x2.fdiv x0) * x1 - (x1.fdiv x0) * (x2 - (x2.fdiv x0) * x0)) (y0 + (y2 - (x2.fdiv x0) * y0)) (y1 + (y3 - (x2.fdiv x0) * y1)) (y2 - (x2.fdiv x0) * y0) (y3 - (x2.fdiv x0) * y1) z0 (z1 - (x1.fdiv x0) * z0) z2 (z3 - (x1.fdiv x0) * z2) 0)) (K .next (SH2 none none b0 b1 b2 b3 x0 (x1 - (x1.fdiv x0) * x0) (x2 - (x2.fdiv x0) * x0) (x3 - (x2.fdiv x0) * x1 - (x1.fdiv x0) * (x2 - (x2.fdiv x0) * x0)) y0 y1 (y2 - (x2.fdiv x0) * y0) (y3 - (x2.fdiv x0) * y1) z0 (z1 - (x1.fdiv x0) * z0) z2 (z3 - (x1.fdiv x0) * z2) 1)) (K .next (SH2 none none b0 b1 b2 b3 (-x0) (-(x1 - (x1.fdiv x0) * x0)) (x2 - (x2.fdiv x0) * x0) (x3 - (x2.fdiv x0) * x1 - (x1.fdiv x0) * (x2 - (x2.fdiv x0) * x0)) (-y0) (-y1) (y2 - (x2.fdiv x0) * y0) (y3 - (x2.fdiv x0) * y1) z0 (z1 - (x1.fdiv x0) * z0) z2 (z3 - (x1.fdiv x0) * z2) 1))) ?_ ?_
  · kernel_rfl
  · exact ⟨⟨h0, s0⟩, sq_ok s2, sq_ok s2, sq_ok s2, sq_ok s2, ⟨h0, s0⟩, sq_ok s1, sq_ok s1, sq_ok s1, sq_ok s1, tailP_ok h0 (fun a => k1 a none none) (fun a b => k2 a b none none) (fun a b c => k3 a b c none none) (fun a b c d => k4 a b c d none none) (fun a b c d => k5 a b c d none none)⟩
theorem sm_step2 (I : InF P_smith (r + 3) 3 X env) : StepT2 X env ([smB.b1, smB.b2, smB.b3] ++ smB.tl) b0 b1 b2 b3 := fun cb cr x0 x1 x2 x3 y0 y1 y2 y3 z0 z1 z2 z3 K h0 k1 k2 => by
  refine TK_endN [3, 4] smN I.hθ (TK_v 60 (I.V (FNs.le (by omega) fnC_ok)) I.Fm ?_)
  refine ev (P := vBr (decide ((0 : Int) < (x3.natAbs : Int))) (vBr (decide (x3 < 0)) (K .next (SH2 none none b0 b1 b2 b3 x0 x1 (-x2) (-x3) y0 y1 (-y2) (-y3) z0 z1 z2 z3 2)) (K .next (SH2 none none b0 b1 b2 b3 x0 x1 x2 x3 y0 y1 y2 y3 z0 z1 z2 z3 2))) False) ?_ ?_
  · kernel_rfl
  · exact vBr_i (fun _ => vBr_i (fun e => k2 (of_decide_eq_true e) none none) fun e => k1 (of_decide_eq_false e) none none) fun e => by have := of_decide_eq_false e; omega
theorem sm_head2 (I : InF P_smith (r + 3) 3 X env) (bd : List Stmt) : HeadT2 X env [smB.b1, smB.b2, smB.b3] bd b0 b1 b2 b3 := fun cb cr x0 x1 x2 x3 y0 y1 y2 y3 z0 z1 z2 z3 K hnz k0 k1 k2 k3 => by
  refine TK_preN 60 [3, 4] smN I.hθ (I.V (FNs.le (by omega) fnC_ok)) I.Fm ?_
  refine ev (P := leastP False none [(x0, TrK X FR (execs bd env) (SH2 none none b0 b1 b2 b3 x0 x1 x2 x3 y0 y1 y2 y3 z0 z1 z2 z3 0) K), (x1, TrK X FR (execs bd env) (SH2 none none b0 b1 b2 b3 x1 x0 x3 x2 y0 y1 y2 y3 z1 z0 z3 z2 0) K), (x2, TrK X FR (execs bd env) (SH2 none none b0 b1 b2 b3 x2 x3 x0 x1 y2 y3 y0 y1 z0 z1 z2 z3 0) K), (x3, TrK X FR (execs bd env) (SH2 none none b0 b1 b2 b3 x3 x2 x1 x0 y2 y3 y0 y1 z1 z0 z3 z2 0) K)]) ?_ ?_
  · kernel_rfl
  · refine leastP_ok _ _ (fun _ h => ?_) (fun _ e => by cases e) fun p hp nz hm => ?_
    · have e0 := h _ (.head _)
      have e1 := h _ (.tail _ (.head _))
      have e2 := h _ (.tail _ (.tail _ (.head _)))
      have e3 := h _ (.tail _ (.tail _ (.tail _ (.head _))))
      rcases hnz with h | h | h | h
      · exact h e0
      · exact h e1
      · exact h e2
      · exact h e3
    · have m0 := hm _ (.head _)
      have m1 := hm _ (.tail _ (.head _))
      have m2 := hm _ (.tail _ (.tail _ (.head _)))
      have m3 := hm _ (.tail _ (.tail _ (.tail _ (.head _))))
      rcases List.mem_cons.mp hp with rfl | hp
      · exact k0 ⟨nz, m1, m2, m3⟩ none none
      · rcases List.mem_cons.mp hp with rfl | hp
        · exact k1 ⟨nz, m0, m3, m2⟩ none none
        · rcases List.mem_cons.mp hp with rfl | hp
          · exact k2 ⟨nz, m3, m0, m1⟩ none none
          · rcases List.mem_cons.mp hp with rfl | hp
            · exact k3 ⟨nz, m2, m1, m0⟩ none none
            · cases hp
end
end
noncomputable section
section
variable {X : Cx} {env : Env} {r : Nat} {b0 b1 : Int}
theorem sm_test1 (I : InF P_smith (r + 3) 2 X env) (st : Int) (b : Bool) (h : ∀ {x0 x1 y0 z0 z1 z2 z3 : Int} {K : Bool → AS → Prop}, vTest (orc 60) (smV 2) smB.t (SH1 none none b0 b1 x0 x1 y0 z0 z1 z2 z3 st) K = K b (SH1 none none b0 b1 x0 x1 y0 z0 z1 z2 z3 st)) : TestT1 X env smB.t b0 b1 st b := fun cb cr _ _ _ _ _ _ _ K hK =>
  TK_of (vTest_ok (orc_ok 60) (I.V (FNs.le (by omega) fnC_ok)) I.Fm (ev h hK))
theorem sm_tail1 (I : InF P_smith (r + 3) 2 X env) : TailT1 X env smB.tl b0 b1 := fun cb cr x0 x1 y0 z0 z1 z2 z3 K h0 s0 s1 k1 k2 k3 => by
  refine TK_endN [2, 3] smN I.hθ (TK_v 60 (I.V (FNs.le (by omega) fnC_ok)) I.Fm ?_)
  refine ev (P := (x0 ≠ 0 ∧ Sm x0) ∧ IntMulOk (x1.fdiv x0) x0 ∧ IntMulOk (x1.fdiv x0) z0 ∧ IntMulOk (x1.fdiv x0) z2 ∧ vBr (!((x1 - (x1.fdiv x0) * x0) == 0)) (K .cont (SH1 none none b0 b1 x0 (x1 - (x1.fdiv x0) * x0) y0 z0 (z1 - (x1.fdiv x0) * z0) z2 (z3 - (x1.fdiv x0) * z2) 0)) (vBr (decide (x0 < 0)) (K .next (SH1 none none b0 b1 (-x0) (-(x1 - (x1.fdiv x0) * x0)) (-y0) z0 (z1 - (x1.fdiv x0) * z0) z2 (z3 - (x1.fdiv x0) * z2) 1)) (K .next (SH1 none none b0 b1 x0 (x1 - (x1.fdiv x0) * x0) y0 z0 (z1 - (x1.fdiv x0) * z0) z2 (z3 - (x1.fdiv x0) * z2) 1)))) ?_ ?_
  · kernel_rfl
  · exact ⟨⟨h0, s0⟩, sq_ok s1, sq_ok s1, sq_ok s1, vBr_i (fun e => k1 (by simpa using e) none none) fun e => vBr_i (fun e2 => k3 (by simpa using e) (of_decide_eq_true e2) none none) fun e2 => k2 (by simpa using e) (of_decide_eq_false e2) none none⟩
theorem sm_head1 (I : InF P_smith (r + 3) 2 X env) (bd : List Stmt) : HeadT1 X env [smB.b1, smB.b2, smB.b3] bd b0 b1 := fun cb cr x0 x1 y0 z0 z1 z2 z3 K hnz k0 k1 => by
  refine TK_preN 60 [2, 3] smN I.hθ (I.V (FNs.le (by omega) fnC_ok)) I.Fm ?_
  refine ev (P := leastP False none [(x0, TrK X FR (execs bd env) (SH1 none none b0 b1 x0 x1 y0 z0 z1 z2 z3 0) K), (x1, TrK X FR (execs bd env) (SH1 none none b0 b1 x1 x0 y0 z1 z0 z3 z2 0) K)]) ?_ ?_
  · kernel_rfl
  · refine leastP_ok _ _ (fun _ h => ?_) (fun _ e => by cases e) fun p hp nz hm => ?_
    · have e0 := h _ (.head _)
      have e1 := h _ (.tail _ (.head _))
      rcases hnz with h | h
      · exact h e0
      · exact h e1
    · have m0 := hm _ (.head _)
      have m1 := hm _ (.tail _ (.head _))
      rcases List.mem_cons.mp hp with rfl | hp
      · exact k0 nz m1 none none
      · rcases List.mem_cons.mp hp with rfl | hp
        · exact k1 nz m0 none none
        · cases hp
end
theorem smith_ends {v : AV} {l : List (Str × AV)} {K : AV → AS → Prop} {n : Nat} {S : AS} {X : Cx} {env : Env} {r : Nat} (I : InF P_smith (r + 3) n X env) (h : vStmts (orc 60) (smV n) smB.post S fun fl S' => EndV n l K (retV fl) ⟨l, S'.hp⟩) : TrK X FR (execs smB.post env) S fun fl S' => EndV n l K (retV fl) ⟨l, S'.hp⟩ := TK_v 60 (I.V (FNs.le (by omega) fnC_ok)) I.Fm h
theorem t_smith2 {X : Cx} {env : Env} {l : List (Str × AV)} {x0 x1 x2 x3 : Int} {K : AV → AS → Prop} (Fm : Fram X env 4) (bx : (x0 ≠ 0 ∧ x0.natAbs ≤ 512) ∨ (x1 ≠ 0 ∧ x1.natAbs ≤ 512) ∨ (x2 ≠ 0 ∧ x2.natAbs ≤ 512) ∨ (x3 ≠ 0 ∧ x3.natAbs ≤ 512)) (bm : x0.natAbs ≤ 1024 ∧ x1.natAbs ≤ 1024 ∧ x2.natAbs ≤ 1024 ∧ x3.natAbs ≤ 1024) (hD : x0 * x3 - x1 * x2 ≠ 0) (hD5 : (x0 * x3 - x1 * x2).natAbs ≤ 500) (hK : ∀ d1 d2 y0 y1 y2 y3 z0 z1 z2 z3, Fin2 x0 x1 x2 x3 d1 d2 y0 y1 y2 y3 z0 z1 z2 z3 → K (.ref 3) ⟨l, [.lst [.ref 1, .ref 2], .lst [.int x0, .int x1], .lst [.int x2, .int x3], .tup [.ref 4, .ref 7, .ref 10], .lst [.ref 5, .ref 6], .lst [.int d1, .int 0], .lst [.int 0, .int d2], .lst [.ref 8, .ref 9], .lst [.int y0, .int y1], .lst [.int y2, .int y3], .lst [.ref 11, .ref 12], .lst [.int z0, .int z1], .lst [.int z2, .int z3]]⟩) : TrLs X VR (callF (.ref 87)) [.ref 0, .int 2] ⟨l, [.lst [.ref 1, .ref 2], .lst [.int x0, .int x1], .lst [.int x2, .int x3]]⟩ K := by
  refine T_fn P_smith N_smith Fm rfl hb_smith rfl (by decide) rfl rfl rfl rfl fun X' env' I => ?_
  rw [smB.eq]
  refine TK_preN 60 [3, 4] smN I.hθ (I.V fnC_ok) I.Fm ?_
  refine ev (P := TrK X' FR (execs (.While smB.t ([smB.b1, smB.b2, smB.b3] ++ smB.tl) [] smB.pos :: smB.post) env') (SH2 none none x0 x1 x2 x3 x0 x1 x2 x3 1 0 0 1 1 0 0 1 0) fun fl S' => EndV 3 l K (retV fl) ⟨l, S'.hp⟩) ?_ ?_
  · kernel_rfl
  have hT0 := sm_test2 (r := 0) I (b0 := x0) (b1 := x1) (b2 := x2) (b3 := x3) 0 true (by intros; kernel_rfl)
  have hT1 := sm_test2 (r := 0) I (b0 := x0) (b1 := x1) (b2 := x2) (b3 := x3) 1 true (by intros; kernel_rfl)
  have hT2 := sm_test2 (r := 0) I (b0 := x0) (b1 := x1) (b2 := x2) (b3 := x3) 2 false (by intros; kernel_rfl)
  refine TK_cons (TK_while (smith2T' hT0 hT1 hT2 (sm_head2 (r := 0) I) (sm_tail2 (r := 0) I) (sm_step2 (r := 0) I) hD hD5 (fun _ _ d1 d2 y0 y1 y2 y3 z0 z1 z2 z3 F => ?_) 512 none none (Nat.le_refl _) (Good2.init bm) (by decide) bx))
  refine smith_ends (v := .nil) (r := 0) I ?_
  refine ev (P := K (.ref 3) ⟨l, [.lst [.ref 1, .ref 2], .lst [.int x0, .int x1], .lst [.int x2, .int x3], .tup [.ref 4, .ref 7, .ref 10], .lst [.ref 5, .ref 6], .lst [.int d1, .int 0], .lst [.int 0, .int d2], .lst [.ref 8, .ref 9], .lst [.int y0, .int y1], .lst [.int y2, .int y3], .lst [.ref 11, .ref 12], .lst [.int z0, .int z1], .lst [.int z2, .int z3]]⟩) ?_ (hK _ _ _ _ _ _ _ _ _ _ F)
  kernel_rfl
theorem t_smith1 {X : Cx} {env : Env} {l : List (Str × AV)} {x0 x1 : Int} {K : AV → AS → Prop} (Fm : Fram X env 4) (bx : (x0 ≠ 0 ∧ x0.natAbs ≤ 512) ∨ (x1 ≠ 0 ∧ x1.natAbs ≤ 512)) (bm : x0.natAbs ≤ 1024 ∧ x1.natAbs ≤ 1024) (hK : ∀ d1 y0 z0 z1 z2 z3, Fin1 x0 x1 d1 y0 z0 z1 z2 z3 → K (.ref 2) ⟨l, [.lst [.ref 1], .lst [.int x0, .int x1], .tup [.ref 3, .ref 5, .ref 7], .lst [.ref 4], .lst [.int d1, .int 0], .lst [.ref 6], .lst [.int y0], .lst [.ref 8, .ref 9], .lst [.int z0, .int z1], .lst [.int z2, .int z3]]⟩) : TrLs X VR (callF (.ref 87)) [.ref 0, .int 2] ⟨l, [.lst [.ref 1], .lst [.int x0, .int x1]]⟩ K := by
  refine T_fn P_smith N_smith Fm rfl hb_smith rfl (by decide) rfl rfl rfl rfl fun X' env' I => ?_
  rw [smB.eq]
  refine TK_preN 60 [2, 3] smN I.hθ (I.V fnC_ok) I.Fm ?_
  refine ev (P := TrK X' FR (execs (.While smB.t ([smB.b1, smB.b2, smB.b3] ++ smB.tl) [] smB.pos :: smB.post) env') (SH1 none none x0 x1 x0 x1 1 1 0 0 1 0) fun fl S' => EndV 2 l K (retV fl) ⟨l, S'.hp⟩) ?_ ?_
  · kernel_rfl
  have hT0 := sm_test1 (r := 0) I (b0 := x0) (b1 := x1) 0 true (by intros; kernel_rfl)
  have hT1 := sm_test1 (r := 0) I (b0 := x0) (b1 := x1) 1 false (by intros; kernel_rfl)
  refine TK_cons (TK_while (smith1T' hT0 hT1 (sm_head1 (r := 0) I) (sm_tail1 (r := 0) I) (fun _ _ d1 y0 z0 z1 z2 z3 F => ?_) 512 none none (Nat.le_refl _) (Good1.init bm) (by decide) bx))
  refine smith_ends (v := .nil) (r := 0) I ?_
  refine ev (P := K (.ref 2) ⟨l, [.lst [.ref 1], .lst [.int x0, .int x1], .tup [.ref 3, .ref 5, .ref 7], .lst [.ref 4], .lst [.int d1, .int 0], .lst [.ref 6], .lst [.int y0], .lst [.ref 8, .ref 9], .lst [.int z0, .int z1], .lst [.int z2, .int z3]]⟩) ?_ (hK _ _ _ _ _ _ F)
  kernel_rfl
end
noncomputable section
noncomputable def Pre2 (x0 x1 x2 x3 : Int) : Prop := ((x0 ≠ 0 ∧ x0.natAbs ≤ 512) ∨ (x1 ≠ 0 ∧ x1.natAbs ≤ 512) ∨ (x2 ≠ 0 ∧ x2.natAbs ≤ 512) ∨ (x3 ≠ 0 ∧ x3.natAbs ≤ 512)) ∧ (x0.natAbs ≤ 1024 ∧ x1.natAbs ≤ 1024 ∧ x2.natAbs ≤ 1024 ∧ x3.natAbs ≤ 1024) ∧ x0 * x3 - x1 * x2 ≠ 0 ∧ (x0 * x3 - x1 * x2).natAbs ≤ 500
noncomputable def Pre1 (x0 x1 : Int) : Prop := ((x0 ≠ 0 ∧ x0.natAbs ≤ 512) ∨ (x1 ≠ 0 ∧ x1.natAbs ≤ 512)) ∧ (x0.natAbs ≤ 1024 ∧ x1.natAbs ≤ 1024)
noncomputable def argI (j : Nat) (a : AV) : Bool := match a with
  | .int x => x == Int.ofNat j
  | _ => false
noncomputable def argR (j : Nat) (a : AV) : Bool := match a with
  | .ref k => k == j
  | _ => false
theorem argI_ok {j : Nat} {a : AV} (h : argI j a = true) : a = .int (Int.ofNat j) := by
  cases a with
  | int x => rw [beq_iff_eq.mp (show (x == Int.ofNat j) = true from h)]
  | _ => first | exact ff_tt h | exact nn_ss h | cases h
theorem argR_ok {j : Nat} {a : AV} (h : argR j a = true) : a = .ref j := by
  cases a with
  | ref k => rw [beq_iff_eq.mp (show (k == j) = true from h)]
  | _ => first | exact ff_tt h | exact nn_ss h | cases h
noncomputable def args2 (a b : AV → Bool) (vs : List AV) : Bool := match two? vs with
  | some c => a c.1 && b c.2
  | none => false
theorem args2_ok {a b : AV → Bool} {vs : List AV} (h : args2 a b vs = true) : ∃ u v, vs = [u, v] ∧ a u = true ∧ b v = true := by
  unfold args2 at h
  cases e : two? vs with
  | none => rw [e] at h; cases h
  | some c => rw [e, Bool.and_eq_true] at h; exact ⟨_, _, two?_ok e, h.1, h.2⟩
noncomputable def args3 (a b c : AV → Bool) (vs : List AV) : Bool := match vs with
  | [] => false
  | v :: r => a v && args2 b c r
theorem args3_ok {a b c : AV → Bool} {vs : List AV} (h : args3 a b c vs = true) : ∃ u v w, vs = [u, v, w] ∧ a u = true ∧ b v = true ∧ c w = true := by
  cases vs with
  | nil => cases h
  | cons x r =>
    obtain ⟨h1, h2⟩ := (Bool.and_eq_true _ _).mp h
    obtain ⟨u, v, rfl, h3, h4⟩ := args2_ok h2
    exact ⟨_, _, _, rfl, h1, h3, h4⟩
noncomputable def cSmith : Con0 := fun vs hp Q => vIf (args2 (argR 0) (argI 2) vs) (mat hp
  (fun p r => vIf r.isEmpty (Pre1 p.1 p.2 ∧ ∀ (d1 : Nat) (y0 z0 z1 z2 z3 : Int), Fin1 p.1 p.2 (Int.ofNat (d1 + 1)) y0 z0 z1 z2 z3 → Q (.ref 2) [.lst [.ref 1], .lst [.int p.1, .int p.2], .tup [.ref 3, .ref 5, .ref 7], .lst [.ref 4], .lst [.int (Int.ofNat (d1 + 1)), .int 0], .lst [.ref 6], .lst [.int y0], .lst [.ref 8, .ref 9], .lst [.int z0, .int z1], .lst [.int z2, .int z3]]))
  (fun p q r => vIf r.isEmpty (Pre2 p.1 p.2 q.1 q.2 ∧ ∀ (d1 d2 : Nat) (y0 y1 y2 y3 z0 z1 z2 z3 : Int), Fin2 p.1 p.2 q.1 q.2 (Int.ofNat (d1 + 1)) (Int.ofNat (d2 + 1)) y0 y1 y2 y3 z0 z1 z2 z3 → Q (.ref 3) [.lst [.ref 1, .ref 2], .lst [.int p.1, .int p.2], .lst [.int q.1, .int q.2], .tup [.ref 4, .ref 7, .ref 10], .lst [.ref 5, .ref 6], .lst [.int (Int.ofNat (d1 + 1)), .int 0], .lst [.int 0, .int (Int.ofNat (d2 + 1))], .lst [.ref 8, .ref 9], .lst [.int y0, .int y1], .lst [.int y2, .int y3], .lst [.ref 11, .ref 12], .lst [.int z0, .int z1], .lst [.int z2, .int z3]])))
theorem posN {x : Int} (h : 0 < x) : ∃ n : Nat, x = Int.ofNat (n + 1) := ⟨x.toNat - 1, by simp only [Int.ofNat_eq_natCast]; omega⟩
theorem smith_cok : COK 4 87 cSmith := fun {X env l vs hp K0} Fm h => by
  obtain ⟨ha, h⟩ := vIf_ok h
  obtain ⟨u, v, ev, h1, h2⟩ := args2_ok ha
  rw [argR_ok h1, argI_ok h2] at ev
  rw [ev]
  rcases mat_ok h with ⟨a, r, e, h⟩ | ⟨a, b, r, e, h⟩
  · obtain ⟨hr, hp, h9⟩ := vIf_ok (show vIf r.isEmpty _ from h)
    rw [e, List.isEmpty_iff.mp hr]
    refine t_smith1 Fm hp.1 hp.2 fun d1 y0 z0 z1 z2 z3 F => ?_
    obtain ⟨n, e1⟩ := posN F.p1
    rw [e1] at F ⊢
    exact h9 n _ _ _ _ _ F
  · obtain ⟨hr, hp, h9⟩ := vIf_ok (show vIf r.isEmpty _ from h)
    rw [e, List.isEmpty_iff.mp hr]
    refine t_smith2 Fm hp.1 hp.2.1 hp.2.2.1 hp.2.2.2 fun d1 d2 y0 y1 y2 y3 z0 z1 z2 z3 F => ?_
    obtain ⟨n, e1⟩ := posN F.p1
    obtain ⟨m, e2⟩ := posN F.p2
    rw [e1, e2] at F ⊢
    exact h9 n m _ _ _ _ _ _ _ _ F
noncomputable def s_smith : Spec := sel cSmith
theorem ok_smith : FOk 4 87 s_smith := sel_ok smith_cok
noncomputable def fnW : List (Str × Spec) := [(Str.ofString "need_shape", s_need), (Str.ofString "smith_form", s_smith), (Str.ofString "whole_mul", s_mul), (Str.ofString "kernel_of", s_kern)]
theorem fnW_ok : FNs 4 fnW := FNs.cons 41 (fun p => by k_is) (fun p => by first | rfl | k_is) (by decide) (FOk.le (by decide) ok_need) (FNs.cons 87 (fun p => by k_is) (fun p => by first | rfl | k_is) (by decide) ok_smith (FNs.cons 51 (fun p => by k_is) (fun p => by first | rfl | k_is) (by decide) (FOk.le (by decide) ok_mul) (FNs.cons 102 (fun p => by k_is) (fun p => by first | rfl | k_is) (by decide) (FOk.le (by decide) ok_kern) FNs.nil)))
theorem vBrN {x y : Int} {P Q : Prop} (h1 : x ≠ y → P) (h2 : x = y → Q) : vBr (x != y) P Q := vBr_i (fun e => h1 (by simpa using e)) fun e => h2 (by simpa using e)
theorem t_whole2 {X : Cx} {env : Env} {l : List (Str × AV)} {x0 x1 x2 x3 r0 r1 : Int} {K : AV → AS → Prop} (Fm : Fram X env 5) (hp : Pre2 x0 x1 x2 x3) (hr : r0.natAbs ≤ 10000 ∧ r1.natAbs ≤ 10000) (hKn : (∀ p q, ¬ (x0 * p + x1 * q = r0 ∧ x2 * p + x3 * q = r1)) → K (.ref 4) ⟨l, [.lst [.ref 1, .ref 2], .lst [.int x0, .int x1], .lst [.int x2, .int x3], .lst [.int r0, .int r1], .tup [.nil, .ref 5], .lst []]⟩)
    (hKs : ∀ p q, (x0 * p + x1 * q = r0 ∧ x2 * p + x3 * q = r1) → K (.ref 4) ⟨l, [.lst [.ref 1, .ref 2], .lst [.int x0, .int x1], .lst [.int x2, .int x3], .lst [.int r0, .int r1], .tup [.ref 5, .ref 6], .lst [.int p, .int q], .lst []]⟩) : TrLs X VR (callF (.ref 97)) [.ref 0, .ref 3, .int 2] ⟨l, [.lst [.ref 1, .ref 2], .lst [.int x0, .int x1], .lst [.int x2, .int x3], .lst [.int r0, .int r1]]⟩ K := by
  refine T_fn P_whole N_whole Fm rfl hb_whole rfl (by decide) rfl rfl rfl rfl fun X' env' I => TK_v 60 (I.V fnW_ok) I.Fm ?_
  refine ev (P := ∀ _ : Tok, Pre2 x0 x1 x2 x3 ∧ ∀ (d1 d2 : Nat) (y0 y1 y2 y3 z0 z1 z2 z3 : Int), Fin2 x0 x1 x2 x3 (Int.ofNat (d1 + 1)) (Int.ofNat (d2 + 1)) y0 y1 y2 y3 z0 z1 z2 z3 → IntMulOk y0 r0 ∧ IntMulOk y1 r1 ∧ IntMulOk y2 r0 ∧ IntMulOk y3 r1 ∧ (Int.ofNat (d1 + 1)) ≠ 0 ∧ vBr ((y0 * r0 + y1 * r1).fmod (Int.ofNat (d1 + 1)) != 0) (K (.ref 4) ⟨l, [.lst [.ref 1, .ref 2], .lst [.int x0, .int x1], .lst [.int x2, .int x3], .lst [.int r0, .int r1], .tup [.nil, .ref 5], .lst []]⟩) (((Int.ofNat (d1 + 1)) ≠ 0 ∧ Sm (Int.ofNat (d1 + 1))) ∧ (Int.ofNat (d2 + 1)) ≠ 0 ∧ vBr ((y2 * r0 + y3 * r1).fmod (Int.ofNat (d2 + 1)) != 0) (K (.ref 4) ⟨l, [.lst [.ref 1, .ref 2], .lst [.int x0, .int x1], .lst [.int x2, .int x3], .lst [.int r0, .int r1], .tup [.nil, .ref 5], .lst []]⟩) (((Int.ofNat (d2 + 1)) ≠ 0 ∧ Sm (Int.ofNat (d2 + 1))) ∧ IntMulOk z0 ((y0 * r0 + y1 * r1).fdiv (Int.ofNat (d1 + 1))) ∧ IntMulOk z1 ((y2 * r0 + y3 * r1).fdiv (Int.ofNat (d2 + 1))) ∧ IntMulOk z2 ((y0 * r0 + y1 * r1).fdiv (Int.ofNat (d1 + 1))) ∧ IntMulOk z3 ((y2 * r0 + y3 * r1).fdiv (Int.ofNat (d2 + 1))) ∧ K (.ref 4) ⟨l, [.lst [.ref 1, .ref 2], .lst [.int x0, .int x1], .lst [.int x2, .int x3], .lst [.int r0, .int r1], .tup [.ref 5, .ref 6], .lst [.int (z0 * (y0 * r0 + y1 * r1).fdiv (Int.ofNat (d1 + 1)) + z1 * (y2 * r0 + y3 * r1).fdiv (Int.ofNat (d2 + 1))), .int (z2 * (y0 * r0 + y1 * r1).fdiv (Int.ofNat (d1 + 1)) + z3 * (y2 * r0 + y3 * r1).fdiv (Int.ofNat (d2 + 1)))], .lst []]⟩))) ?_ ?_
  · kernel_rfl
  · refine fun _ => ⟨hp, fun d1 d2 y0 y1 y2 y3 z0 z1 z2 z3 F => ?_⟩
    obtain ⟨⟨a1, a2, a3, a4⟩, n1, n2, s1, s2, b1, b2, b3, b4⟩ := F.facts' hr hp.2.2.2
    exact ⟨a1, a2, a3, a4, n1, vBrN (fun e => hKn (F.noSol (.inl e))) fun e1 => ⟨⟨n1, s1⟩, n2, vBrN (fun e => hKn (F.noSol (.inr e))) fun e2 => ⟨⟨n2, s2⟩, b1, b2, b3, b4, hKs _ _ (F.sol e1 e2)⟩⟩⟩
theorem t_whole1 {X : Cx} {env : Env} {l : List (Str × AV)} {x0 x1 r0 : Int} {K : AV → AS → Prop} (Fm : Fram X env 5) (hp : Pre1 x0 x1) (hr : r0.natAbs ≤ 10000) (hKn : ∀ u v, ((∀ p q, x0 * p + x1 * q ≠ r0) ∧ x0 * u + x1 * v = 0 ∧ (u ≠ 0 ∨ v ≠ 0)) → K (.ref 3) ⟨l, [.lst [.ref 1], .lst [.int x0, .int x1], .lst [.int r0], .tup [.nil, .ref 4], .lst [.ref 5], .lst [.int u, .int v]]⟩)
    (hKs : ∀ p q u v, (x0 * p + x1 * q = r0 ∧ x0 * u + x1 * v = 0 ∧ (u ≠ 0 ∨ v ≠ 0)) → K (.ref 3) ⟨l, [.lst [.ref 1], .lst [.int x0, .int x1], .lst [.int r0], .tup [.ref 4, .ref 5], .lst [.int p, .int q], .lst [.ref 6], .lst [.int u, .int v]]⟩) : TrLs X VR (callF (.ref 97)) [.ref 0, .ref 2, .int 2] ⟨l, [.lst [.ref 1], .lst [.int x0, .int x1], .lst [.int r0]]⟩ K := by
  refine T_fn P_whole N_whole Fm rfl hb_whole rfl (by decide) rfl rfl rfl rfl fun X' env' I => TK_v 60 (I.V fnW_ok) I.Fm ?_
  refine ev (P := ∀ _ : Tok, Pre1 x0 x1 ∧ ∀ (d1 : Nat) (y0 z0 z1 z2 z3 : Int), Fin1 x0 x1 (Int.ofNat (d1 + 1)) y0 z0 z1 z2 z3 → IntMulOk y0 r0 ∧ (Int.ofNat (d1 + 1)) ≠ 0 ∧ vBr ((y0 * r0).fmod (Int.ofNat (d1 + 1)) != 0) (K (.ref 3) ⟨l, [.lst [.ref 1], .lst [.int x0, .int x1], .lst [.int r0], .tup [.nil, .ref 4], .lst [.ref 5], .lst [.int z1, .int z3]]⟩) (((Int.ofNat (d1 + 1)) ≠ 0 ∧ Sm (Int.ofNat (d1 + 1))) ∧ IntMulOk z0 ((y0 * r0).fdiv (Int.ofNat (d1 + 1))) ∧ IntMulOk z1 0 ∧ IntMulOk z2 ((y0 * r0).fdiv (Int.ofNat (d1 + 1))) ∧ IntMulOk z3 0 ∧ K (.ref 3) ⟨l, [.lst [.ref 1], .lst [.int x0, .int x1], .lst [.int r0], .tup [.ref 4, .ref 5], .lst [.int (z0 * (y0 * r0).fdiv (Int.ofNat (d1 + 1)) + z1 * 0), .int (z2 * (y0 * r0).fdiv (Int.ofNat (d1 + 1)) + z3 * 0)], .lst [.ref 6], .lst [.int z1, .int z3]]⟩)) ?_ ?_
  · kernel_rfl
  · refine fun _ => ⟨hp, fun d1 y0 z0 z1 z2 z3 F => ?_⟩
    obtain ⟨a1, n1, s1, b1, b2, b3, b4⟩ := F.facts r0 hr
    exact ⟨a1, n1, vBrN (fun e => hKn _ _ ⟨F.noSol e, F.ker, F.kern0⟩) fun e1 => ⟨⟨n1, s1⟩, b1, b2, b3, b4, hKs _ _ _ _ ⟨F.sol e1, F.ker, F.kern0⟩⟩⟩
end
noncomputable section
-- a draw
theorem t_take {X : Cx} {env : Env} {l : List (Str × AV)} {n many : Int} {xs : List Int} {K : AV → AS → Prop} (Fm : Fram X env 3) (hm : 0 < many) (hl : xs.length ≤ 1000) (hKx : ∀ v ys, (0 ≤ v ∧ v < many ∧ ys.length ≤ 1000) → K (.int v) ⟨l, [.lst [.ref 1, .int (n + 1)], .il ys]⟩) : TrLs X VR (callF (.ref 109)) [.ref 0, .int many] ⟨l, [.lst [.ref 1, .int n], .il xs]⟩ K := by
  refine T_fn P_take N_take Fm rfl hb_take rfl (by decide) rfl rfl rfl rfl fun X' env' I => TK_v 60 (I.V FNs.nil) I.Fm ?_
  cases xs with
  | nil =>
    refine ev (P := IntMulOk 5 (n + 1) ∧ ((3 : Int) ≠ 0 ∧ Sm 3) ∧ many ≠ 0 ∧ K (.int ((5 * (n + 1) + (n + 1).fdiv 3).fmod many)) ⟨l, [.lst [.ref 1, .int (n + 1)], .il []]⟩) ?_ ?_
    · kernel_rfl
    · exact ⟨IntMulOk.of_left (Sm_of (by decide)), ⟨by decide, Sm_of (by decide)⟩, by omega, hKx _ _ ⟨Int.fmod_nonneg_of_pos _ hm, Int.fmod_lt_of_pos _ hm, hl⟩⟩
  | cons x r =>
    have hr : r.length ≤ 1000 := by simp at hl; omega
    refine ev (P := r.length ≤ 1000 ∧ many ≠ 0 ∧ K (.int (x.fmod many)) ⟨l, [.lst [.ref 1, .int (n + 1)], .il r]⟩) ?_ ?_
    · kernel_rfl
    · exact ⟨hr, by omega, hKx _ _ ⟨Int.fmod_nonneg_of_pos _ hm, Int.fmod_lt_of_pos _ hm, hr⟩⟩
/-- the box of the draws -/
noncomputable def boxO (hp : List AO) (P : Int → List Int → Prop) : Prop := match hp with
  | [] => False
  | o :: hp => vOpt (lstO o) fun vs => vOpt (two? vs) fun c => vIf (argR 1 c.1) (vInt c.2 fun n => match hp with
    | [] => False
    | o2 :: hp => vOpt (ilO (some o2)) fun xs => vIf hp.isEmpty (P n xs))
theorem boxO_ok {hp : List AO} {P : Int → List Int → Prop} (h : boxO hp P) : ∃ n xs, hp = [.lst [.ref 1, .int n], .il xs] ∧ P n xs := by
  cases hp with
  | nil => exact h.elim
  | cons o hp =>
    obtain ⟨vs, e1, h⟩ := vOpt_ok (show vOpt (lstO o) _ from h)
    obtain ⟨c, e2, h⟩ := vOpt_ok h
    obtain ⟨e3, h⟩ := vIf_ok h
    obtain ⟨n, e4, h⟩ := vInt_ok h
    cases hp with
    | nil => exact h.elim
    | cons o2 hp =>
      obtain ⟨xs, e5, h⟩ := vOpt_ok (show vOpt (ilO (some o2)) _ from h)
      obtain ⟨e6, h⟩ := vIf_ok h
      exact ⟨n, xs, by rw [lstO_ok e1, two?_ok e2, argR_ok e3, e4, Option.some.inj (ilO_ok e5), List.isEmpty_iff.mp e6], h⟩
noncomputable def cTake : Con0 := fun vs hp Q => vOpt (two? vs) fun c => vIf (argR 0 c.1) (vInt c.2 fun many => boxO hp fun n xs => (0 < many ∧ xs.length ≤ 1000) ∧ ∀ v ys, (0 ≤ v ∧ v < many ∧ ys.length ≤ 1000) → Q (.int v) [.lst [.ref 1, .int (n + 1)], .il ys])
theorem take_cok : COK 3 109 cTake := fun {X env l vs hp K0} Fm h => by
  obtain ⟨c, e1, h⟩ := vOpt_ok h
  obtain ⟨e2, h⟩ := vIf_ok h
  obtain ⟨many, e3, h⟩ := vInt_ok h
  obtain ⟨n, xs, e4, h4, h5⟩ := boxO_ok h
  rw [e4, two?_ok e1, argR_ok e2, e3]
  exact t_take Fm h4.1 h4.2 h5
noncomputable def s_take : Spec := sel cTake
theorem ok_take : FOk 3 109 s_take := sel_ok take_cok
-- the hits
structure HtB where
  a1 : Stmt
  p1 : Pos
  p2 : Pos
  p3 : Pos
  p4 : Pos
  p5 : Pos
  p6 : Pos
  p7 : Pos
  p8 : Pos
  p9 : Pos
  pb : Pos
  bI : List Stmt
  post : List Stmt
  eq : P_hits.body = [a1] ++ (.For (.Name (Str.ofString "x") p1) (.Call (.Name (Str.ofString "range") p2) [.Name (Str.ofString "n") p3] [] p4) [.For (.Name (Str.ofString "y") p5) (.Call (.Name (Str.ofString "range") p6) [.Name (Str.ofString "n") p7] [] p8) bI [] p9] [] pb :: post)
noncomputable def htB : HtB := ⟨_, _, _, _, _, _, _, _, _, _, _, _, _, rfl⟩
noncomputable def fnH : List (Str × Spec) := [(Str.ofString "_law_row", s_lrow)]
theorem fnH_ok : FNs 2 fnH := FNs.cons 116 (fun p => by k_is) (fun p => by first | rfl | k_is) (by decide) ok_lrow FNs.nil
noncomputable def htN : List Str := [Str.ofString "found", Str.ofString "a"]
theorem t_hits2 {X : Cx} {env : Env} {l : List (Str × AV)} {x0 x1 x2 x3 r0 r1 n : Int} {K : AV → AS → Prop} (Fm : Fram X env 3) (hn : 0 ≤ n) (hn9 : n ≤ 100) (hn0 : n ≠ 0) (b0 : Sm x0) (b1 : Sm x1) (b2 : Sm x2) (b3 : Sm x3) (hKx : K (.int (0 + cO (fun x y => (x0 * x + x1 * y - r0).fmod n == 0 && (x2 * x + x3 * y - r1).fmod n == 0) n.toNat 0 n.toNat)) ⟨l, [.lst [.ref 1, .ref 2], .lst [.int x0, .int x1], .lst [.int x2, .int x3], .lst [.int r0, .int r1]]⟩) : TrLs X VR (callF (.ref 121)) [.ref 0, .ref 3, .int n] ⟨l, [.lst [.ref 1, .ref 2], .lst [.int x0, .int x1], .lst [.int x2, .int x3], .lst [.int r0, .int r1]]⟩ K := by
  refine T_fn P_hits N_hits Fm rfl hb_hits rfl (by decide) rfl rfl rfl rfl fun X' env' I => ?_
  have V := I.V fnH_ok
  have h8 : X'.θ₀.length = 8 := I.hθ
  rw [htB.eq]
  refine TK_preN 60 [4, 5] htN h8 V I.Fm ?_
  refine ev (P := TrK X' FR (execs (.For (.Name (Str.ofString "x") htB.p1) (.Call (.Name (Str.ofString "range") htB.p2) [.Name (Str.ofString "n") htB.p3] [] htB.p4) [.For (.Name (Str.ofString "y") htB.p5) (.Call (.Name (Str.ofString "range") htB.p6) [.Name (Str.ofString "n") htB.p7] [] htB.p8) htB.bI [] htB.p9] [] htB.pb :: htB.post) env') ⟨[(Str.ofString "found", .int 0), (Str.ofString "a", .ref 0)], [.lst [.ref 1, .ref 2], .lst [.int x0, .int x1], .lst [.int x2, .int x3], .lst [.int r0, .int r1], .acell, .acell, .cell (some (.int n)), .cell (some (.ref 3))]⟩ fun fl S' => EndV 4 l K (retV fl) ⟨l, S'.hp⟩) ?_ ?_
  · kernel_rfl
  have hit : ∀ (S : AS) (K : Nat → AS → Prop) (p2 p3 p4 : Pos), S.hp[6]? = some (.cell (some (.int n))) → K S.hp.length (S.new (.ri 0 (n - 0))) → TrIt X' (.Call (.Name (Str.ofString "range") p2) [.Name (Str.ofString "n") p3] [] p4) env' S K := fun S K p2 p3 p4 e hK => V.rangeN (j := 6) rfl rfl rfl rfl hn (by omega) e hK
  refine TK_cons (TK_for (hit _ _ _ _ _ rfl ?_) (it_ok rfl env'))
  refine hits2_go (x0 := x0) (x1 := x1) (x2 := x2) (x3 := x3) (r0 := r0) (r1 := r1) (n := n) (P := fun x y => (x0 * x + x1 * y - r0).fmod n == 0 && (x2 * x + x3 * y - r1).fmod n == 0) ?_ (fun S z K h hK => V.storeA (j := 5) rfl rfl rfl h hK) (fun S z K h hK => V.storeA (j := 4) rfl rfl rfl h hK) h8 hn (fun S K e hK => hit S K _ _ _ e hK) (it_ok rfl env') ?_
  · intro c x k8 y k K θ₂ p2 l2 hK
    refine TK_endN [4] htN l2 (TK_v 60 (V.at p2) (Fram.at I.Fm) ?_)
    refine ev (P := IntMulOk x0 x ∧ IntMulOk x1 y ∧ n ≠ 0 ∧ vBr ((x0 * x + x1 * y - r0).fmod n != 0) (IntMulOk x2 x ∧ IntMulOk x3 y ∧ n ≠ 0 ∧ vBr ((x2 * x + x3 * y - r1).fmod n != 0) (K .next (HI2 x0 x1 x2 x3 r0 r1 n (c) x k8 .acell (y + 1) k)) (K .next (HI2 x0 x1 x2 x3 r0 r1 n (c) x k8 .acell (y + 1) k))) (IntMulOk x2 x ∧ IntMulOk x3 y ∧ n ≠ 0 ∧ vBr ((x2 * x + x3 * y - r1).fmod n != 0) (K .next (HI2 x0 x1 x2 x3 r0 r1 n (c) x k8 .acell (y + 1) k)) (K .next (HI2 x0 x1 x2 x3 r0 r1 n (c + 1) x k8 .acell (y + 1) k)))) ?_ ?_
    · kernel_rfl
    have hK : K .next (HI2 x0 x1 x2 x3 r0 r1 n (c + ind ((x0 * x + x1 * y - r0).fmod n == 0 && (x2 * x + x3 * y - r1).fmod n == 0)) x k8 .acell (y + 1) k) := hK
    have no0 : ind ((x0 * x + x1 * y - r0).fmod n == 0 && (x2 * x + x3 * y - r1).fmod n == 0) = 0 → K .next (HI2 x0 x1 x2 x3 r0 r1 n (c) x k8 .acell (y + 1) k) := fun e => by rw [e, Int.add_zero] at hK; exact hK
    exact ⟨sq_ok b0, sq_ok b1, hn0, vBrN (fun e => have q := no0 (ind_0a e); ⟨sq_ok b2, sq_ok b3, hn0, vBrN (fun _ => q) fun _ => q⟩) fun e => ⟨sq_ok b2, sq_ok b3, hn0, vBrN (fun e2 => no0 (ind_0b e2)) fun e2 => by rw [ind_11 e e2] at hK; exact hK⟩⟩
  · refine TK_v 60 V I.Fm ?_
    refine ev (P := K (.int (0 + cO (fun x y => (x0 * x + x1 * y - r0).fmod n == 0 && (x2 * x + x3 * y - r1).fmod n == 0) n.toNat 0 n.toNat)) ⟨l, [.lst [.ref 1, .ref 2], .lst [.int x0, .int x1], .lst [.int x2, .int x3], .lst [.int r0, .int r1]]⟩) ?_ hKx
    kernel_rfl

theorem t_hits1 {X : Cx} {env : Env} {l : List (Str × AV)} {x0 x1 r0 n : Int} {K : AV → AS → Prop} (Fm : Fram X env 3) (hn : 0 ≤ n) (hn9 : n ≤ 100) (hn0 : n ≠ 0) (b0 : Sm x0) (b1 : Sm x1) (hKx : K (.int (0 + cO (fun x y => (x0 * x + x1 * y - r0).fmod n == 0) n.toNat 0 n.toNat)) ⟨l, [.lst [.ref 1], .lst [.int x0, .int x1], .lst [.int r0]]⟩) : TrLs X VR (callF (.ref 121)) [.ref 0, .ref 2, .int n] ⟨l, [.lst [.ref 1], .lst [.int x0, .int x1], .lst [.int r0]]⟩ K := by
  refine T_fn P_hits N_hits Fm rfl hb_hits rfl (by decide) rfl rfl rfl rfl fun X' env' I => ?_
  have V := I.V fnH_ok
  have h8 : X'.θ₀.length = 7 := I.hθ
  rw [htB.eq]
  refine TK_preN 60 [3, 4] htN h8 V I.Fm ?_
  refine ev (P := TrK X' FR (execs (.For (.Name (Str.ofString "x") htB.p1) (.Call (.Name (Str.ofString "range") htB.p2) [.Name (Str.ofString "n") htB.p3] [] htB.p4) [.For (.Name (Str.ofString "y") htB.p5) (.Call (.Name (Str.ofString "range") htB.p6) [.Name (Str.ofString "n") htB.p7] [] htB.p8) htB.bI [] htB.p9] [] htB.pb :: htB.post) env') ⟨[(Str.ofString "found", .int 0), (Str.ofString "a", .ref 0)], [.lst [.ref 1], .lst [.int x0, .int x1], .lst [.int r0], .acell, .acell, .cell (some (.int n)), .cell (some (.ref 2))]⟩ fun fl S' => EndV 3 l K (retV fl) ⟨l, S'.hp⟩) ?_ ?_
  · kernel_rfl
  have hit : ∀ (S : AS) (K : Nat → AS → Prop) (p2 p3 p4 : Pos), S.hp[5]? = some (.cell (some (.int n))) → K S.hp.length (S.new (.ri 0 (n - 0))) → TrIt X' (.Call (.Name (Str.ofString "range") p2) [.Name (Str.ofString "n") p3] [] p4) env' S K := fun S K p2 p3 p4 e hK => V.rangeN (j := 5) rfl rfl rfl rfl hn (by omega) e hK
  refine TK_cons (TK_for (hit _ _ _ _ _ rfl ?_) (it_ok rfl env'))
  refine hits1_go (x0 := x0) (x1 := x1) (r0 := r0) (n := n) (P := fun x y => (x0 * x + x1 * y - r0).fmod n == 0) ?_ (fun S z K h hK => V.storeA (j := 4) rfl rfl rfl h hK) (fun S z K h hK => V.storeA (j := 3) rfl rfl rfl h hK) h8 hn (fun S K e hK => hit S K _ _ _ e hK) (it_ok rfl env') ?_
  · intro c x k8 y k K θ₂ p2 l2 hK
    refine TK_endN [3] htN l2 (TK_v 60 (V.at p2) (Fram.at I.Fm) ?_)
    refine ev (P := IntMulOk x0 x ∧ IntMulOk x1 y ∧ n ≠ 0 ∧ vBr ((x0 * x + x1 * y - r0).fmod n != 0) (K .next (HI1 x0 x1 r0 n (c) x k8 .acell (y + 1) k)) (K .next (HI1 x0 x1 r0 n (c + 1) x k8 .acell (y + 1) k))) ?_ ?_
    · kernel_rfl
    have hK : K .next (HI1 x0 x1 r0 n (c + ind ((x0 * x + x1 * y - r0).fmod n == 0)) x k8 .acell (y + 1) k) := hK
    have no0 : ind ((x0 * x + x1 * y - r0).fmod n == 0) = 0 → K .next (HI1 x0 x1 r0 n (c) x k8 .acell (y + 1) k) := fun e => by rw [e, Int.add_zero] at hK; exact hK
    exact ⟨sq_ok b0, sq_ok b1, hn0, vBrN (fun e => no0 (ind_0 e)) fun e => by rw [ind_1 e] at hK; exact hK⟩
  · refine TK_v 60 V I.Fm ?_
    refine ev (P := K (.int (0 + cO (fun x y => (x0 * x + x1 * y - r0).fmod n == 0) n.toNat 0 n.toNat)) ⟨l, [.lst [.ref 1], .lst [.int x0, .int x1], .lst [.int r0]]⟩) ?_ hKx
    kernel_rfl

noncomputable def cHits : Con1 := fun vs hp Q => match vs with
  | [] => False
  | a0 :: vs => vOpt (two? vs) fun c => vIf (argR 0 a0) (vInt c.2 fun n => mat hp
    (fun p r => vIf (argR 2 c.1) (beh1 r fun r0 => (0 ≤ n ∧ n ≤ 100 ∧ n ≠ 0 ∧ Sm p.1 ∧ Sm p.2) ∧ Q (.int (0 + cO (fun x y => (p.1 * x + p.2 * y - r0).fmod n == 0) n.toNat 0 n.toNat))))
    (fun p q r => vIf (argR 3 c.1) (beh2 r fun w => (0 ≤ n ∧ n ≤ 100 ∧ n ≠ 0 ∧ Sm p.1 ∧ Sm p.2 ∧ Sm q.1 ∧ Sm q.2) ∧ Q (.int (0 + cO (fun x y => (p.1 * x + p.2 * y - w.1).fmod n == 0 && (q.1 * x + q.2 * y - w.2).fmod n == 0) n.toNat 0 n.toNat)))))
theorem hits_cok : COK1 3 121 cHits := fun {X env l vs hp K0} Fm h => by
  cases vs with
  | nil => exact h.elim
  | cons a0 vs =>
    obtain ⟨c, e1, h⟩ := vOpt_ok (show vOpt (two? vs) _ from h)
    obtain ⟨e2, h⟩ := vIf_ok h
    obtain ⟨n, e3, h⟩ := vInt_ok h
    rw [two?_ok e1, argR_ok e2, e3]
    rcases mat_ok h with ⟨p, r, e4, h⟩ | ⟨p, q, r, e4, h⟩
    · obtain ⟨e5, h⟩ := vIf_ok (show vIf (argR 2 c.1) _ from h)
      obtain ⟨r0, e6, c1, h⟩ := beh1_ok h
      rw [e6] at e4
      subst e4
      rw [argR_ok e5]
      exact t_hits1 Fm c1.1 c1.2.1 c1.2.2.1 c1.2.2.2.1 c1.2.2.2.2 h
    · obtain ⟨e5, h⟩ := vIf_ok (show vIf (argR 3 c.1) _ from h)
      obtain ⟨w, e6, c1, h⟩ := beh2_ok h
      rw [e6] at e4
      subst e4
      rw [argR_ok e5]
      exact t_hits2 Fm c1.1 c1.2.1 c1.2.2.1 c1.2.2.2.1 c1.2.2.2.2.1 c1.2.2.2.2.2.1 c1.2.2.2.2.2.2 h
noncomputable def s_hits : Spec := sel1 cHits
theorem ok_hits : FOk 3 121 s_hits := sel1_ok hits_cok
end
noncomputable section
noncomputable def cWhole : Con0 := fun vs hp Q => mat hp
  (fun p r => vIf (args3 (argR 0) (argR 2) (argI 2) vs) (beh1 r fun r0 => (Pre1 p.1 p.2 ∧ r0.natAbs ≤ 10000) ∧
      (∀ u v, ((∀ x y, p.1 * x + p.2 * y ≠ r0) ∧ p.1 * u + p.2 * v = 0 ∧ (u ≠ 0 ∨ v ≠ 0)) → Q (.ref 3) [.lst [.ref 1], .lst [.int p.1, .int p.2], .lst [.int r0], .tup [.nil, .ref 4], .lst [.ref 5], .lst [.int u, .int v]]) ∧
      (∀ x y u v, (p.1 * x + p.2 * y = r0 ∧ p.1 * u + p.2 * v = 0 ∧ (u ≠ 0 ∨ v ≠ 0)) → Q (.ref 3) [.lst [.ref 1], .lst [.int p.1, .int p.2], .lst [.int r0], .tup [.ref 4, .ref 5], .lst [.int x, .int y], .lst [.ref 6], .lst [.int u, .int v]])))
  (fun p q r => vIf (args3 (argR 0) (argR 3) (argI 2) vs) (beh2 r fun w => (Pre2 p.1 p.2 q.1 q.2 ∧ w.1.natAbs ≤ 10000 ∧ w.2.natAbs ≤ 10000) ∧
      ((∀ x y, ¬ (p.1 * x + p.2 * y = w.1 ∧ q.1 * x + q.2 * y = w.2)) → Q (.ref 4) [.lst [.ref 1, .ref 2], .lst [.int p.1, .int p.2], .lst [.int q.1, .int q.2], .lst [.int w.1, .int w.2], .tup [.nil, .ref 5], .lst []]) ∧
      (∀ x y, (p.1 * x + p.2 * y = w.1 ∧ q.1 * x + q.2 * y = w.2) → Q (.ref 4) [.lst [.ref 1, .ref 2], .lst [.int p.1, .int p.2], .lst [.int q.1, .int q.2], .lst [.int w.1, .int w.2], .tup [.ref 5, .ref 6], .lst [.int x, .int y], .lst []])))
theorem whole_cok : COK 5 97 cWhole := fun {X env l vs hp K0} Fm h => by
  rcases mat_ok h with ⟨p, r, e4, h⟩ | ⟨p, q, r, e4, h⟩
  · obtain ⟨ha, h⟩ := vIf_ok (show vIf (args3 _ _ _ vs) _ from h)
    obtain ⟨a, b, c, ev, a1, a2, a3⟩ := args3_ok ha
    obtain ⟨r0, e6, c1, h9, h10⟩ := beh1_ok h
    rw [e4, e6, ev, argR_ok a1, argR_ok a2, argI_ok a3]
    exact t_whole1 Fm c1.1 c1.2 h9 h10
  · obtain ⟨ha, h⟩ := vIf_ok (show vIf (args3 _ _ _ vs) _ from h)
    obtain ⟨a, b, c, ev, a1, a2, a3⟩ := args3_ok ha
    obtain ⟨w, e6, c1, h9, h10⟩ := beh2_ok h
    rw [e4, e6, ev, argR_ok a1, argR_ok a2, argI_ok a3]
    exact t_whole2 Fm c1.1 c1.2 h9 h10
noncomputable def s_whole : Spec := sel cWhole
theorem ok_whole : FOk 5 97 s_whole := sel_ok whole_cok
/-- a count that is not 0, told as one more than another -/
noncomputable def posQ (Q : AV → Prop) (v : AV) : Prop := vInt v fun x => 0 < x ∧ ∀ m : Nat, Int.ofNat (m + 1) = x → Q (.int (Int.ofNat (m + 1)))
noncomputable def s_hitsP : Spec := fun vs S K => s_hits vs S fun v S' => posQ (fun v => K v S') v
theorem ok_hitsP : FOk 3 121 s_hitsP := fun Fm vs S K hs => TrLs.mono (ok_hits Fm vs S _ hs) fun v S' h => by
  obtain ⟨x, rfl, h1, h2⟩ := vInt_ok (show vInt v fun x => 0 < x ∧ ∀ m : Nat, Int.ofNat (m + 1) = x → K (.int (Int.ofNat (m + 1))) S' from h)
  obtain ⟨n, rfl⟩ := posN h1
  exact h2 n rfl
noncomputable def fnL (s : Spec) : List (Str × Spec) := [(Str.ofString "_law_take", s_take), (Str.ofString "diagonal", s_diag), (Str.ofString "smith_form", s_smith), (Str.ofString "whole_solutions", s_whole), (Str.ofString "_law_row", s_lrow), (Str.ofString "_law_hits", s)]
theorem fnL_ok {s : Spec} (h : FOk 3 121 s) : FNs 5 (fnL s) := FNs.cons 109 (fun p => by k_is) (fun p => by first | rfl | k_is) (by decide) (FOk.le (by decide) ok_take) (FNs.cons 92 (fun p => by k_is) (fun p => by first | rfl | k_is) (by decide) (FOk.le (by decide) ok_diag) (FNs.cons 87 (fun p => by k_is) (fun p => by first | rfl | k_is) (by decide) (FOk.le (by decide) ok_smith) (FNs.cons 97 (fun p => by k_is) (fun p => by first | rfl | k_is) (by decide) ok_whole (FNs.cons 116 (fun p => by k_is) (fun p => by first | rfl | k_is) (by decide) (FOk.le (by decide) ok_lrow) (FNs.cons 121 (fun p => by k_is) (fun p => by first | rfl | k_is) (by decide) (FOk.le (by decide) h) FNs.nil)))))
-- the law's text
noncomputable def lwD (k : Nat) : List Stmt := P_law.body.drop k
noncomputable def lwV (s : Spec) : VC := ⟨P_law.scope.names, numb 0 (cellNs P_law.scope.names), none, GBS, fnL s⟩
noncomputable def KK : AF → AS → Prop := fun f _ => f = .ret (.bool true)
theorem lwD_eq (k m : Nat) : lwD k = (lwD k).take m ++ lwD (k + m) := by
  unfold lwD
  rw [← List.drop_drop, List.take_append_drop]
section
variable {X : Cx} {env : Env} {S : AS}
/-- the next statements of the law's -/
theorem lw_blk (I : InF P_law 10 0 X env) {s : Spec} (hs : FOk 3 121 s) (k m : Nat) (ks : List Nat) (names : List Str) (h : vStmts (orc 60) (lwV s) ((lwD k).take m) S (afterG X env 7 ks names (lwD (k + m)) KK)) : TrK X FR (execs (lwD k) env) S KK := by
  rw [lwD_eq k m]
  exact TK_preG 60 ks names I.hθ (I.V (FNs.le (by decide) (fnL_ok hs))) (r := 9) I.Fm h
theorem lw_end (I : InF P_law 10 0 X env) {s : Spec} (hs : FOk 3 121 s) (k : Nat) (h : vStmts (orc 60) (lwV s) (lwD k) S KK) : TrK X FR (execs (lwD k) env) S KK := TK_v 60 (I.V (FNs.le (by decide) (fnL_ok hs))) (r := 9) I.Fm h
end
/-- a draw -/
noncomputable def draw (m : Int) (ys : List Int) (T : Int → List Int → Prop) : Prop := (0 < m ∧ ys.length ≤ 1000) ∧ ∀ v ys', (0 ≤ v ∧ v < m ∧ ys'.length ≤ 1000) → T v ys'
theorem draw_i {m : Int} {ys : List Int} {T : Int → List Int → Prop} (h0 : 0 < m) (hl : ys.length ≤ 1000) (h : ∀ v ys', (0 ≤ v ∧ v < m) → ys'.length ≤ 1000 → T v ys') : draw m ys T := ⟨⟨h0, hl⟩, fun v ys' c => h v ys' ⟨c.1, c.2.1⟩ c.2.2⟩
/-- so many counts, one behind the other; none told; each told not 0 -/
noncomputable def hN (C : Int → Prop) (F : Prop) : Nat → Int → Prop
  | 0, _ => F
  | j + 1, i => C i ∧ hN C F j (i + 1)
theorem hN_i {C : Int → Prop} {F : Prop} (hF : F) : ∀ (j : Nat) (i : Int), (∀ n, i ≤ n → n < i + j → C n) → hN C F j i
  | 0, _, _ => hF
  | j + 1, i, h => ⟨h i (Int.le_refl i) (by omega), hN_i hF j (i + 1) fun n h1 h2 => h n (by omega) (by omega)⟩
noncomputable def hS (C : Int → Prop) (h : Int → Int) (F : Int → Prop) : Nat → Int → Int → Prop
  | 0, _, a => F a
  | j + 1, i, _ => C i ∧ 0 < h i ∧ ∀ m : Nat, Int.ofNat (m + 1) = h i → hS C h F j (i + 1) (Int.ofNat (m + 1))
theorem hS_i {C : Int → Prop} {h : Int → Int} {F : Int → Prop} : ∀ (j : Nat) (i a : Int), (∀ n, i ≤ n → n < i + j → C n ∧ 0 < h n) → (j = 0 → F a) → (∀ b, b = h (i + j - 1) → F b) → hS C h F j i a
  | 0, _, _, _, hF, _ => hF rfl
  | j + 1, i, a, hC, _, hF => ⟨(hC i (Int.le_refl i) (by omega)).1, (hC i (Int.le_refl i) (by omega)).2, fun m e => hS_i j (i + 1) _ (fun n h1 h2 => hC n (by omega) (by omega)) (fun hj => hF _ (by subst hj; rw [e]; congr 1; omega)) fun b hb => hF b (by rw [hb]; congr 1; omega)⟩
theorem ind_nn' (b : Bool) : 0 ≤ ind b := by unfold ind; split <;> decide
theorem cI_nn' {P : Int → Int → Bool} {x : Int} : ∀ (j : Nat) (y : Int), 0 ≤ cI P x y j
  | 0, _ => Int.le_refl 0
  | j + 1, y => Int.add_nonneg (ind_nn' _) (cI_nn' j (y + 1))
theorem cO_nn' {P : Int → Int → Bool} {n : Nat} : ∀ (j : Nat) (x : Int), 0 ≤ cO P n x j
  | 0, _ => Int.le_refl 0
  | j + 1, x => Int.add_nonneg (cI_nn' n 0) (cO_nn' j (x + 1))
end
noncomputable section
section
variable {X : Cx} {env : Env} {f g t0 t1 t2 t3 A B C D p q u v r0 r1 φ ku kv : Int}
/-- two rows, no solution: the counts, the last one 0 -/
theorem lwFn2 (k : Nat) (hk : k = 1 ∨ k = 2 ∨ k = 3 ∨ k = 4 ∨ k = 6) : vStmts (orc 60) (lwV s_hits) (lwD 17) ⟨[(Str.ofString "form", .int φ), (Str.ofString "built", .ref 13), (Str.ofString "many", .int 2), (Str.ofString "last", .int (Int.ofNat k)), (Str.ofString "first", .int f)], [.cell (some (.ref 7)), .cell (some .nil), .cell (some (.ref 8)), .cell (some (.ref 9)), .cell (some (.ref 10)), .acell, .acell, .lst [], .lst [.int r0, .int r1], .lst [.int p, .int q], .lst [.ref 11, .ref 12], .lst [.int A, .int B], .lst [.int C, .int D], .lst [.int f, .int (Int.ofNat k)]]⟩ KK = hN (fun n => 0 ≤ n ∧ n ≤ 100 ∧ n ≠ 0 ∧ Sm A ∧ Sm B ∧ Sm C ∧ Sm D) (AF.ret (.bool ((fun n => 0 + cO (P2 A B C D r0 r1 n) n.toNat 0 n.toNat) (Int.ofNat k) == 0)) = AF.ret (.bool true)) k 1 := by
  rcases hk with rfl | rfl | rfl | rfl | rfl
  all_goals kernel_rfl
theorem lwFs2 (k : Nat) (hk : k = 1 ∨ k = 2 ∨ k = 3 ∨ k = 4 ∨ k = 6) : vStmts (orc 60) (lwV s_hitsP) (lwD 17) ⟨[(Str.ofString "form", .int φ), (Str.ofString "built", .ref 14), (Str.ofString "many", .int 2), (Str.ofString "last", .int (Int.ofNat k)), (Str.ofString "first", .int f)], [.cell (some (.ref 7)), .cell (some (.ref 8)), .cell (some (.ref 9)), .cell (some (.ref 10)), .cell (some (.ref 11)), .acell, .acell, .lst [], .lst [.int u, .int v], .lst [.int r0, .int r1], .lst [.int p, .int q], .lst [.ref 12, .ref 13], .lst [.int A, .int B], .lst [.int C, .int D], .lst [.int f, .int (Int.ofNat k)]]⟩ KK = hS (fun n => 0 ≤ n ∧ n ≤ 100 ∧ n ≠ 0 ∧ Sm A ∧ Sm B ∧ Sm C ∧ Sm D) (fun n => 0 + cO (P2 A B C D r0 r1 n) n.toNat 0 n.toNat) (fun a => IntMulOk f (Int.ofNat k) ∧ vBr (a != f * Int.ofNat k) (AF.ret (.bool false) = AF.ret (.bool true)) (vBr (φ == 0) (vBr (!decide ([u, v] = [p, q])) (AF.ret (.bool false) = AF.ret (.bool true)) (IntMulOk A u ∧ IntMulOk B v ∧ IntMulOk C u ∧ IntMulOk D v ∧ (AF.ret (.bool (decide ([A * u + B * v, C * u + D * v] = [r0, r1]))) = AF.ret (.bool true)))) (IntMulOk A u ∧ IntMulOk B v ∧ IntMulOk C u ∧ IntMulOk D v ∧ (AF.ret (.bool (decide ([A * u + B * v, C * u + D * v] = [r0, r1]))) = AF.ret (.bool true))))) k 1 0 := by
  rcases hk with rfl | rfl | rfl | rfl | rfl
  all_goals kernel_rfl
theorem lwFn1 (k : Nat) (hk : k = 1 ∨ k = 2 ∨ k = 3) : vStmts (orc 60) (lwV s_hits) (lwD 17) ⟨[(Str.ofString "form", .int φ), (Str.ofString "built", .ref 13), (Str.ofString "many", .int 1), (Str.ofString "last", .int g), (Str.ofString "first", .int (Int.ofNat k))], [.cell (some (.ref 7)), .cell (some .nil), .cell (some (.ref 9)), .cell (some (.ref 10)), .cell (some (.ref 11)), .acell, .acell, .lst [.ref 8], .lst [.int ku, .int kv], .lst [.int r0], .lst [.int p, .int q], .lst [.ref 12], .lst [.int A, .int B], .lst [.int (Int.ofNat k)]]⟩ KK = hN (fun n => 0 ≤ n ∧ n ≤ 100 ∧ n ≠ 0 ∧ Sm A ∧ Sm B) (AF.ret (.bool ((fun n => 0 + cO (P1 A B r0 n) n.toNat 0 n.toNat) (Int.ofNat k) == 0)) = AF.ret (.bool true)) k 1 := by
  rcases hk with rfl | rfl | rfl
  all_goals kernel_rfl
theorem lwFs1 (k : Nat) (hk : k = 1 ∨ k = 2 ∨ k = 3) : vStmts (orc 60) (lwV s_hitsP) (lwD 17) ⟨[(Str.ofString "form", .int φ), (Str.ofString "built", .ref 14), (Str.ofString "many", .int 1), (Str.ofString "last", .int g), (Str.ofString "first", .int (Int.ofNat k))], [.cell (some (.ref 7)), .cell (some (.ref 9)), .cell (some (.ref 10)), .cell (some (.ref 11)), .cell (some (.ref 12)), .acell, .acell, .lst [.ref 8], .lst [.int ku, .int kv], .lst [.int u, .int v], .lst [.int r0], .lst [.int p, .int q], .lst [.ref 13], .lst [.int A, .int B], .lst [.int (Int.ofNat k)]]⟩ KK = hS (fun n => 0 ≤ n ∧ n ≤ 100 ∧ n ≠ 0 ∧ Sm A ∧ Sm B) (fun n => 0 + cO (P1 A B r0 n) n.toNat 0 n.toNat) (fun a => IntMulOk (Int.ofNat k) (Int.ofNat k) ∧ vBr (a != Int.ofNat k * Int.ofNat k) (AF.ret (.bool false) = AF.ret (.bool true)) (vBr (φ == 0) (IntMulOk A u ∧ IntMulOk B v ∧ (AF.ret (.bool (decide ([A * u + B * v] = [r0]))) = AF.ret (.bool true))) (IntMulOk A u ∧ IntMulOk B v ∧ (AF.ret (.bool (decide ([A * u + B * v] = [r0]))) = AF.ret (.bool true))))) k 1 0 := by
  rcases hk with rfl | rfl | rfl
  all_goals kernel_rfl

theorem lwE2 (I : InF P_law 10 0 X env) (hp : Pre2 A B C D) (hr : r0.natAbs ≤ 10000 ∧ r1.natAbs ≤ 10000) (hd : ∀ d1 d2 y0 y1 y2 y3 z0 z1 z2 z3, Fin2 A B C D d1 d2 y0 y1 y2 y3 z0 z1 z2 z3 → d1 = f ∧ d2 = g) (hn : (∀ x y, ¬ (A * x + B * y = r0 ∧ C * x + D * y = r1)) → TrK X FR (execs (lwD 17) env) ⟨[(Str.ofString "form", .int φ), (Str.ofString "built", .ref 13), (Str.ofString "many", .int 2), (Str.ofString "last", .int g), (Str.ofString "first", .int f)], [.cell (some (.ref 7)), .cell (some .nil), .cell (some (.ref 8)), .cell (some (.ref 9)), .cell (some (.ref 10)), .acell, .acell, .lst [], .lst [.int r0, .int r1], .lst [.int p, .int q], .lst [.ref 11, .ref 12], .lst [.int A, .int B], .lst [.int C, .int D], .lst [.int f, .int g]]⟩ KK) (hs : ∀ u v, (A * u + B * v = r0 ∧ C * u + D * v = r1) → TrK X FR (execs (lwD 17) env) ⟨[(Str.ofString "form", .int φ), (Str.ofString "built", .ref 14), (Str.ofString "many", .int 2), (Str.ofString "last", .int g), (Str.ofString "first", .int f)], [.cell (some (.ref 7)), .cell (some (.ref 8)), .cell (some (.ref 9)), .cell (some (.ref 10)), .cell (some (.ref 11)), .acell, .acell, .lst [], .lst [.int u, .int v], .lst [.int r0, .int r1], .lst [.int p, .int q], .lst [.ref 12, .ref 13], .lst [.int A, .int B], .lst [.int C, .int D], .lst [.int f, .int g]]⟩ KK) : TrK X FR (execs (lwD 14) env) ⟨[(Str.ofString "form", .int φ), (Str.ofString "built", .ref 12), (Str.ofString "many", .int 2), (Str.ofString "last", .int g), (Str.ofString "first", .int f)], [.cell none, .cell none, .cell (some (.ref 7)), .cell (some (.ref 8)), .cell (some (.ref 9)), .acell, .acell, .lst [.int r0, .int r1], .lst [.int p, .int q], .lst [.ref 10, .ref 11], .lst [.int A, .int B], .lst [.int C, .int D], .lst [.int f, .int g]]⟩ KK := by
  refine lw_blk I ok_hits 14 3 [] [Str.ofString "form", Str.ofString "built", Str.ofString "many", Str.ofString "last", Str.ofString "first"] ?_
  refine ev (P := Pre2 A B C D ∧ ∀ (d1 d2 : Nat) (y0 y1 y2 y3 z0 z1 z2 z3 : Int), Fin2 A B C D (Int.ofNat (d1 + 1)) (Int.ofNat (d2 + 1)) y0 y1 y2 y3 z0 z1 z2 z3 → vBr (!decide ([(Int.ofNat (d1 + 1)), (Int.ofNat (d2 + 1))] = [f, g])) (AF.ret (.bool false) = AF.ret (.bool true)) ((Pre2 A B C D ∧ r0.natAbs ≤ 10000 ∧ r1.natAbs ≤ 10000) ∧ ((∀ x y, ¬ (A * x + B * y = r0 ∧ C * x + D * y = r1)) → TrK X FR (execs (lwD 17) env) ⟨[(Str.ofString "form", .int φ), (Str.ofString "built", .ref 13), (Str.ofString "many", .int 2), (Str.ofString "last", .int g), (Str.ofString "first", .int f)], [.cell (some (.ref 7)), .cell (some .nil), .cell (some (.ref 8)), .cell (some (.ref 9)), .cell (some (.ref 10)), .acell, .acell, .lst [], .lst [.int r0, .int r1], .lst [.int p, .int q], .lst [.ref 11, .ref 12], .lst [.int A, .int B], .lst [.int C, .int D], .lst [.int f, .int g]]⟩ KK) ∧ (∀ u v, (A * u + B * v = r0 ∧ C * u + D * v = r1) → TrK X FR (execs (lwD 17) env) ⟨[(Str.ofString "form", .int φ), (Str.ofString "built", .ref 14), (Str.ofString "many", .int 2), (Str.ofString "last", .int g), (Str.ofString "first", .int f)], [.cell (some (.ref 7)), .cell (some (.ref 8)), .cell (some (.ref 9)), .cell (some (.ref 10)), .cell (some (.ref 11)), .acell, .acell, .lst [], .lst [.int u, .int v], .lst [.int r0, .int r1], .lst [.int p, .int q], .lst [.ref 12, .ref 13], .lst [.int A, .int B], .lst [.int C, .int D], .lst [.int f, .int g]]⟩ KK))) ?_ ?_
  · kernel_rfl
  · refine ⟨hp, fun d1 d2 y0 y1 y2 y3 z0 z1 z2 z3 F => ?_⟩
    obtain ⟨e1, e2⟩ := hd _ _ _ _ _ _ _ _ _ _ F
    rw [e1, e2]
    exact vBr_i (fun h => by simp at h) fun _ => ⟨⟨hp, hr⟩, hn, hs⟩
theorem chk_ok {R : Prop} (h : A * ku + B * kv = 0) (h0 : ku ≠ 0 ∨ kv ≠ 0) (hR : R) : vBr (A * ku + B * kv != 0) (true = false ∧ R) (vBr (decide ([ku, kv] = [0, 0])) (true = false ∧ R) (false = false ∧ R)) := vBrN (fun e => absurd h e) fun _ => vBr_i (fun e => by
    have e := of_decide_eq_true e
    injection e with e1 e2
    injection e2 with e2 _
    rcases h0 with h0 | h0
    · exact absurd e1 h0
    · exact absurd e2 h0) fun _ => ⟨rfl, hR⟩
theorem lwE1 (I : InF P_law 10 0 X env) (hp : Pre1 A B) (hr : r0.natAbs ≤ 10000) (hm : Sm A ∧ Sm B) (hd : ∀ d1 y0 z0 z1 z2 z3, Fin1 A B d1 y0 z0 z1 z2 z3 → d1 = f) (hn : (∀ x y, A * x + B * y ≠ r0) → ∀ ku kv, TrK X FR (execs (lwD 17) env) ⟨[(Str.ofString "form", .int φ), (Str.ofString "built", .ref 13), (Str.ofString "many", .int 1), (Str.ofString "last", .int g), (Str.ofString "first", .int f)], [.cell (some (.ref 7)), .cell (some .nil), .cell (some (.ref 9)), .cell (some (.ref 10)), .cell (some (.ref 11)), .acell, .acell, .lst [.ref 8], .lst [.int ku, .int kv], .lst [.int r0], .lst [.int p, .int q], .lst [.ref 12], .lst [.int A, .int B], .lst [.int f]]⟩ KK) (hs : ∀ u v, A * u + B * v = r0 → ∀ ku kv, TrK X FR (execs (lwD 17) env) ⟨[(Str.ofString "form", .int φ), (Str.ofString "built", .ref 14), (Str.ofString "many", .int 1), (Str.ofString "last", .int g), (Str.ofString "first", .int f)], [.cell (some (.ref 7)), .cell (some (.ref 9)), .cell (some (.ref 10)), .cell (some (.ref 11)), .cell (some (.ref 12)), .acell, .acell, .lst [.ref 8], .lst [.int ku, .int kv], .lst [.int u, .int v], .lst [.int r0], .lst [.int p, .int q], .lst [.ref 13], .lst [.int A, .int B], .lst [.int f]]⟩ KK) : TrK X FR (execs (lwD 14) env) ⟨[(Str.ofString "form", .int φ), (Str.ofString "built", .ref 11), (Str.ofString "many", .int 1), (Str.ofString "last", .int g), (Str.ofString "first", .int f)], [.cell none, .cell none, .cell (some (.ref 7)), .cell (some (.ref 8)), .cell (some (.ref 9)), .acell, .acell, .lst [.int r0], .lst [.int p, .int q], .lst [.ref 10], .lst [.int A, .int B], .lst [.int f]]⟩ KK := by
  refine lw_blk I ok_hits 14 3 [] [Str.ofString "form", Str.ofString "built", Str.ofString "many", Str.ofString "last", Str.ofString "first"] ?_
  refine ev (P := Pre1 A B ∧ ∀ (d1 : Nat) (y0 z0 z1 z2 z3 : Int), Fin1 A B (Int.ofNat (d1 + 1)) y0 z0 z1 z2 z3 → vBr (!decide ([(Int.ofNat (d1 + 1))] = [f])) (AF.ret (.bool false) = AF.ret (.bool true)) ((Pre1 A B ∧ r0.natAbs ≤ 10000) ∧ (∀ ku kv, ((∀ x y, A * x + B * y ≠ r0) ∧ A * ku + B * kv = 0 ∧ (ku ≠ 0 ∨ kv ≠ 0)) → IntMulOk A ku ∧ IntMulOk B kv ∧ vBr (A * ku + B * kv != 0) (true = false ∧ TrK X FR (execs (lwD 17) env) ⟨[(Str.ofString "form", .int φ), (Str.ofString "built", .ref 13), (Str.ofString "many", .int 1), (Str.ofString "last", .int g), (Str.ofString "first", .int f)], [.cell (some (.ref 7)), .cell (some .nil), .cell (some (.ref 9)), .cell (some (.ref 10)), .cell (some (.ref 11)), .acell, .acell, .lst [.ref 8], .lst [.int ku, .int kv], .lst [.int r0], .lst [.int p, .int q], .lst [.ref 12], .lst [.int A, .int B], .lst [.int f]]⟩ KK) (vBr (decide ([ku, kv] = [0, 0])) (true = false ∧ TrK X FR (execs (lwD 17) env) ⟨[(Str.ofString "form", .int φ), (Str.ofString "built", .ref 13), (Str.ofString "many", .int 1), (Str.ofString "last", .int g), (Str.ofString "first", .int f)], [.cell (some (.ref 7)), .cell (some .nil), .cell (some (.ref 9)), .cell (some (.ref 10)), .cell (some (.ref 11)), .acell, .acell, .lst [.ref 8], .lst [.int ku, .int kv], .lst [.int r0], .lst [.int p, .int q], .lst [.ref 12], .lst [.int A, .int B], .lst [.int f]]⟩ KK) (false = false ∧ TrK X FR (execs (lwD 17) env) ⟨[(Str.ofString "form", .int φ), (Str.ofString "built", .ref 13), (Str.ofString "many", .int 1), (Str.ofString "last", .int g), (Str.ofString "first", .int f)], [.cell (some (.ref 7)), .cell (some .nil), .cell (some (.ref 9)), .cell (some (.ref 10)), .cell (some (.ref 11)), .acell, .acell, .lst [.ref 8], .lst [.int ku, .int kv], .lst [.int r0], .lst [.int p, .int q], .lst [.ref 12], .lst [.int A, .int B], .lst [.int f]]⟩ KK))) ∧ (∀ u v ku kv, (A * u + B * v = r0 ∧ A * ku + B * kv = 0 ∧ (ku ≠ 0 ∨ kv ≠ 0)) → IntMulOk A ku ∧ IntMulOk B kv ∧ vBr (A * ku + B * kv != 0) (true = false ∧ TrK X FR (execs (lwD 17) env) ⟨[(Str.ofString "form", .int φ), (Str.ofString "built", .ref 14), (Str.ofString "many", .int 1), (Str.ofString "last", .int g), (Str.ofString "first", .int f)], [.cell (some (.ref 7)), .cell (some (.ref 9)), .cell (some (.ref 10)), .cell (some (.ref 11)), .cell (some (.ref 12)), .acell, .acell, .lst [.ref 8], .lst [.int ku, .int kv], .lst [.int u, .int v], .lst [.int r0], .lst [.int p, .int q], .lst [.ref 13], .lst [.int A, .int B], .lst [.int f]]⟩ KK) (vBr (decide ([ku, kv] = [0, 0])) (true = false ∧ TrK X FR (execs (lwD 17) env) ⟨[(Str.ofString "form", .int φ), (Str.ofString "built", .ref 14), (Str.ofString "many", .int 1), (Str.ofString "last", .int g), (Str.ofString "first", .int f)], [.cell (some (.ref 7)), .cell (some (.ref 9)), .cell (some (.ref 10)), .cell (some (.ref 11)), .cell (some (.ref 12)), .acell, .acell, .lst [.ref 8], .lst [.int ku, .int kv], .lst [.int u, .int v], .lst [.int r0], .lst [.int p, .int q], .lst [.ref 13], .lst [.int A, .int B], .lst [.int f]]⟩ KK) (false = false ∧ TrK X FR (execs (lwD 17) env) ⟨[(Str.ofString "form", .int φ), (Str.ofString "built", .ref 14), (Str.ofString "many", .int 1), (Str.ofString "last", .int g), (Str.ofString "first", .int f)], [.cell (some (.ref 7)), .cell (some (.ref 9)), .cell (some (.ref 10)), .cell (some (.ref 11)), .cell (some (.ref 12)), .acell, .acell, .lst [.ref 8], .lst [.int ku, .int kv], .lst [.int u, .int v], .lst [.int r0], .lst [.int p, .int q], .lst [.ref 13], .lst [.int A, .int B], .lst [.int f]]⟩ KK))))) ?_ ?_
  · kernel_rfl
  · refine ⟨hp, fun d1 y0 z0 z1 z2 z3 F => ?_⟩
    have e1 := hd _ _ _ _ _ _ F
    rw [e1]
    exact vBr_i (fun h => by simp at h) fun _ => ⟨⟨hp, hr⟩, fun ku kv h => ⟨sq_ok hm.1, sq_ok hm.2, chk_ok h.2.1 h.2.2 (hn h.1 ku kv)⟩, fun u v ku kv h => ⟨sq_ok hm.1, sq_ok hm.2, chk_ok h.2.1 h.2.2 (hs u v h.1 ku kv)⟩⟩
theorem lwD2 (I : InF P_law 10 0 X env) (hm : Sm A ∧ Sm B ∧ Sm C ∧ Sm D) (h0 : φ = 0 → TrK X FR (execs (lwD 14) env) ⟨[(Str.ofString "form", .int φ), (Str.ofString "built", .ref 12), (Str.ofString "many", .int 2), (Str.ofString "last", .int g), (Str.ofString "first", .int f)], [.cell none, .cell none, .cell (some (.ref 7)), .cell (some (.ref 8)), .cell (some (.ref 9)), .acell, .acell, .lst [.int (A * p + B * q), .int (C * p + D * q)], .lst [.int p, .int q], .lst [.ref 10, .ref 11], .lst [.int A, .int B], .lst [.int C, .int D], .lst [.int f, .int g]]⟩ KK) (h1 : φ ≠ 0 → TrK X FR (execs (lwD 14) env) ⟨[(Str.ofString "form", .int φ), (Str.ofString "built", .ref 12), (Str.ofString "many", .int 2), (Str.ofString "last", .int g), (Str.ofString "first", .int f)], [.cell none, .cell none, .cell (some (.ref 7)), .cell (some (.ref 8)), .cell (some (.ref 9)), .acell, .acell, .lst [.int p, .int q], .lst [.int p, .int q], .lst [.ref 10, .ref 11], .lst [.int A, .int B], .lst [.int C, .int D], .lst [.int f, .int g]]⟩ KK) : TrK X FR (execs (lwD 13) env) ⟨[(Str.ofString "form", .int φ), (Str.ofString "built", .ref 11), (Str.ofString "many", .int 2), (Str.ofString "last", .int g), (Str.ofString "first", .int f)], [.cell none, .cell none, .cell none, .cell (some (.ref 7)), .cell (some (.ref 8)), .acell, .acell, .lst [.int p, .int q], .lst [.ref 9, .ref 10], .lst [.int A, .int B], .lst [.int C, .int D], .lst [.int f, .int g]]⟩ KK := by
  refine lw_blk I ok_hits 13 1 [] [Str.ofString "form", Str.ofString "built", Str.ofString "many", Str.ofString "last", Str.ofString "first"] ?_
  refine ev (P := vBr (φ == 0) (IntMulOk A p ∧ IntMulOk B q ∧ IntMulOk C p ∧ IntMulOk D q ∧ TrK X FR (execs (lwD 14) env) ⟨[(Str.ofString "form", .int φ), (Str.ofString "built", .ref 12), (Str.ofString "many", .int 2), (Str.ofString "last", .int g), (Str.ofString "first", .int f)], [.cell none, .cell none, .cell (some (.ref 7)), .cell (some (.ref 8)), .cell (some (.ref 9)), .acell, .acell, .lst [.int (A * p + B * q), .int (C * p + D * q)], .lst [.int p, .int q], .lst [.ref 10, .ref 11], .lst [.int A, .int B], .lst [.int C, .int D], .lst [.int f, .int g]]⟩ KK) (((0 : Int) ≤ 2 ∧ [AV.int p, AV.int q].length ≤ 1000) ∧ TrK X FR (execs (lwD 14) env) ⟨[(Str.ofString "form", .int φ), (Str.ofString "built", .ref 12), (Str.ofString "many", .int 2), (Str.ofString "last", .int g), (Str.ofString "first", .int f)], [.cell none, .cell none, .cell (some (.ref 7)), .cell (some (.ref 8)), .cell (some (.ref 9)), .acell, .acell, .lst [.int p, .int q], .lst [.int p, .int q], .lst [.ref 10, .ref 11], .lst [.int A, .int B], .lst [.int C, .int D], .lst [.int f, .int g]]⟩ KK)) ?_ ?_
  · kernel_rfl
  · exact vBr_i (fun e => ⟨sq_ok hm.1, sq_ok hm.2.1, sq_ok hm.2.2.1, sq_ok hm.2.2.2, h0 (beq_iff_eq.mp e)⟩) fun e => ⟨⟨by decide, (show (2 : Nat) ≤ 1000 by decide)⟩, h1 (by simpa using e)⟩
theorem lwD1 (I : InF P_law 10 0 X env) (hm : Sm A ∧ Sm B) (h0 : φ = 0 → TrK X FR (execs (lwD 14) env) ⟨[(Str.ofString "form", .int φ), (Str.ofString "built", .ref 11), (Str.ofString "many", .int 1), (Str.ofString "last", .int g), (Str.ofString "first", .int f)], [.cell none, .cell none, .cell (some (.ref 7)), .cell (some (.ref 8)), .cell (some (.ref 9)), .acell, .acell, .lst [.int (A * p + B * q)], .lst [.int p, .int q], .lst [.ref 10], .lst [.int A, .int B], .lst [.int f]]⟩ KK) (h1 : φ ≠ 0 → TrK X FR (execs (lwD 14) env) ⟨[(Str.ofString "form", .int φ), (Str.ofString "built", .ref 11), (Str.ofString "many", .int 1), (Str.ofString "last", .int g), (Str.ofString "first", .int f)], [.cell none, .cell none, .cell (some (.ref 7)), .cell (some (.ref 8)), .cell (some (.ref 9)), .acell, .acell, .lst [.int p], .lst [.int p, .int q], .lst [.ref 10], .lst [.int A, .int B], .lst [.int f]]⟩ KK) : TrK X FR (execs (lwD 13) env) ⟨[(Str.ofString "form", .int φ), (Str.ofString "built", .ref 10), (Str.ofString "many", .int 1), (Str.ofString "last", .int g), (Str.ofString "first", .int f)], [.cell none, .cell none, .cell none, .cell (some (.ref 7)), .cell (some (.ref 8)), .acell, .acell, .lst [.int p, .int q], .lst [.ref 9], .lst [.int A, .int B], .lst [.int f]]⟩ KK := by
  refine lw_blk I ok_hits 13 1 [] [Str.ofString "form", Str.ofString "built", Str.ofString "many", Str.ofString "last", Str.ofString "first"] ?_
  refine ev (P := vBr (φ == 0) (IntMulOk A p ∧ IntMulOk B q ∧ TrK X FR (execs (lwD 14) env) ⟨[(Str.ofString "form", .int φ), (Str.ofString "built", .ref 11), (Str.ofString "many", .int 1), (Str.ofString "last", .int g), (Str.ofString "first", .int f)], [.cell none, .cell none, .cell (some (.ref 7)), .cell (some (.ref 8)), .cell (some (.ref 9)), .acell, .acell, .lst [.int (A * p + B * q)], .lst [.int p, .int q], .lst [.ref 10], .lst [.int A, .int B], .lst [.int f]]⟩ KK) (((0 : Int) ≤ 1 ∧ [AV.int p, AV.int q].length ≤ 1000) ∧ TrK X FR (execs (lwD 14) env) ⟨[(Str.ofString "form", .int φ), (Str.ofString "built", .ref 11), (Str.ofString "many", .int 1), (Str.ofString "last", .int g), (Str.ofString "first", .int f)], [.cell none, .cell none, .cell (some (.ref 7)), .cell (some (.ref 8)), .cell (some (.ref 9)), .acell, .acell, .lst [.int p], .lst [.int p, .int q], .lst [.ref 10], .lst [.int A, .int B], .lst [.int f]]⟩ KK)) ?_ ?_
  · kernel_rfl
  · exact vBr_i (fun e => ⟨sq_ok hm.1, sq_ok hm.2, h0 (beq_iff_eq.mp e)⟩) fun e => ⟨⟨by decide, (show (2 : Nat) ≤ 1000 by decide)⟩, h1 (by simpa using e)⟩
theorem kOf {f g : Int} (h : (0 < f ∧ f ≤ 3) ∧ (g = f ∨ g = 2 * f)) : ∃ k : Nat, (k = 1 ∨ k = 2 ∨ k = 3 ∨ k = 4 ∨ k = 6) ∧ g = Int.ofNat k := by
  have hf : f = 1 ∨ f = 2 ∨ f = 3 := by omega
  rcases hf with rfl | rfl | rfl <;> rcases h.2 with rfl | rfl
  · exact ⟨1, .inl rfl, rfl⟩
  · exact ⟨2, .inr (.inl rfl), rfl⟩
  · exact ⟨2, .inr (.inl rfl), rfl⟩
  · exact ⟨4, .inr (.inr (.inr (.inl rfl))), rfl⟩
  · exact ⟨3, .inr (.inr (.inl rfl)), rfl⟩
  · exact ⟨6, .inr (.inr (.inr (.inr rfl))), rfl⟩
theorem kOf1 {f : Int} (h : 0 < f ∧ f ≤ 3) : ∃ k : Nat, (k = 1 ∨ k = 2 ∨ k = 3) ∧ f = Int.ofNat k := by
  have hf : f = 1 ∨ f = 2 ∨ f = 3 := by omega
  rcases hf with rfl | rfl | rfl
  · exact ⟨1, .inl rfl, rfl⟩
  · exact ⟨2, .inr (.inl rfl), rfl⟩
  · exact ⟨3, .inr (.inr rfl), rfl⟩
theorem k6 {k : Nat} (h : k = 1 ∨ k = 2 ∨ k = 3 ∨ k = 4 ∨ k = 6) : 1 ≤ k ∧ k ≤ 6 := by rcases h with rfl | rfl | rfl | rfl | rfl <;> decide
theorem k3 {k : Nat} (h : k = 1 ∨ k = 2 ∨ k = 3) : 1 ≤ k ∧ k ≤ 6 := by rcases h with rfl | rfl | rfl <;> decide
theorem n_ok {n : Int} {k : Nat} (hk : 1 ≤ k ∧ k ≤ 6) (h1 : 1 ≤ n) (h2 : n < 1 + (k : Int)) : 0 ≤ n ∧ n ≤ 100 ∧ n ≠ 0 := by omega
theorem n_nat {n : Int} {k : Nat} (h1 : 1 ≤ n) (h2 : n < 1 + (k : Int)) : ∃ j : Nat, n = (j : Int) ∧ 1 ≤ j ∧ (j : Int) ≤ Int.ofNat k := ⟨n.toNat, by omega, by omega, by simp only [Int.ofNat_eq_natCast]; omega⟩
theorem k_last (k : Nat) : (1 : Int) + (k : Int) - 1 = Int.ofNat k := by simp only [Int.ofNat_eq_natCast]; omega
theorem pos_nn {x : Int} (h : 0 ≤ x) (h0 : x ≠ 0) : 0 < x := by omega
theorem f_sm {f : Int} (h : 0 < f ∧ f ≤ 3) : Sm f := Sm_of (by omega)
theorem k_sm {k : Nat} (h : 1 ≤ k ∧ k ≤ 6) : Sm (Int.ofNat k) := Sm_of (by simp only [Int.ofNat_eq_natCast]; omega)
theorem le4 {p q : Int} (h : p.natAbs ≤ 4 ∧ q.natAbs ≤ 4) : p.natAbs ≤ 10000 ∧ q.natAbs ≤ 10000 := ⟨Nat.le_trans h.1 (by decide), Nat.le_trans h.2 (by decide)⟩
theorem t_ok {v1 v2 v3 v4 : Int} (h1 : 0 ≤ v1 ∧ v1 < 7) (h2 : 0 ≤ v2 ∧ v2 < 7) (h3 : 0 ≤ v3 ∧ v3 < 7) (h4 : 0 ≤ v4 ∧ v4 < 7) : ((v1 - 3).natAbs ≤ 3 ∧ (v2 - 3).natAbs ≤ 3) ∧ (v3 - 3).natAbs ≤ 3 ∧ (v4 - 3).natAbs ≤ 3 :=
  have t : ∀ {v : Int}, (0 ≤ v ∧ v < 7) → (v - 3).natAbs ≤ 3 := by intro v h; omega
  ⟨⟨t h1, t h2⟩, t h3, t h4⟩
theorem p_ok {v1 v2 : Int} (h1 : 0 ≤ v1 ∧ v1 < 9) (h2 : 0 ≤ v2 ∧ v2 < 9) : (v1 - 4).natAbs ≤ 4 ∧ (v2 - 4).natAbs ≤ 4 :=
  have t : ∀ {v : Int}, (0 ≤ v ∧ v < 9) → (v - 4).natAbs ≤ 4 := by intro v h; omega
  ⟨t h1, t h2⟩
theorem v01 {v : Int} (h : 0 ≤ v ∧ v < 2) : v = 0 ∨ v = 1 := by omega
theorem fg_ok {v1 v2 : Int} (h1 : 0 ≤ v1 ∧ v1 < 3) (h2 : 0 ≤ v2 ∧ v2 < 2) : (0 < 1 + v1 ∧ 1 + v1 ≤ 3) ∧ ((1 + v1) * (2 - v2) = 1 + v1 ∨ (1 + v1) * (2 - v2) = 2 * (1 + v1)) := by
  refine ⟨by omega, ?_⟩
  rcases v01 h2 with rfl | rfl
  · right; omega
  · left; omega

theorem lwC2 (I : InF P_law 10 0 X env) {ys : List Int} (hl : ys.length ≤ 1000) (h : ∀ φ p q : Int, (p.natAbs ≤ 4 ∧ q.natAbs ≤ 4) → TrK X FR (execs (lwD 13) env) ⟨[(Str.ofString "form", .int φ), (Str.ofString "built", .ref 11), (Str.ofString "many", .int 2), (Str.ofString "last", .int g), (Str.ofString "first", .int f)], [.cell none, .cell none, .cell none, .cell (some (.ref 7)), .cell (some (.ref 8)), .acell, .acell, .lst [.int p, .int q], .lst [.ref 9, .ref 10], .lst [.int A, .int B], .lst [.int C, .int D], .lst [.int f, .int g]]⟩ KK) : TrK X FR (execs (lwD 11) env) ⟨[(Str.ofString "built", .ref 12), (Str.ofString "many", .int 2), (Str.ofString "last", .int g), (Str.ofString "first", .int f)], [.cell none, .cell none, .cell none, .cell none, .cell (some (.ref 7)), .acell, .cell (some (.ref 10)), .lst [.ref 8, .ref 9], .lst [.int A, .int B], .lst [.int C, .int D], .lst [.ref 11, .int 7], .il ys, .lst [.int f, .int g]]⟩ KK := by
  refine lw_blk I ok_hits 11 2 [5, 6] [Str.ofString "form", Str.ofString "built", Str.ofString "many", Str.ofString "last", Str.ofString "first"] ?_
  refine ev (P := draw 2 ys fun φ y1 => draw 9 y1 fun v1 y2 => draw 9 y2 fun v2 y3 => TrK X FR (execs (lwD 13) env) ⟨[(Str.ofString "form", .int φ), (Str.ofString "built", .ref 11), (Str.ofString "many", .int 2), (Str.ofString "last", .int g), (Str.ofString "first", .int f)], [.cell none, .cell none, .cell none, .cell (some (.ref 7)), .cell (some (.ref 8)), .acell, .acell, .lst [.int (v1 - 4), .int (v2 - 4)], .lst [.ref 9, .ref 10], .lst [.int A, .int B], .lst [.int C, .int D], .lst [.int f, .int g]]⟩ KK) ?_ ?_
  · kernel_rfl
  · exact draw_i (by decide) hl fun φ y1 c1 l1 => draw_i (by decide) l1 fun v1 y2 c2 l2 => draw_i (by decide) l2 fun v2 y3 c3 l3 => h φ (v1 - 4) (v2 - 4) (p_ok c2 c3)

theorem lwC1 (I : InF P_law 10 0 X env) {ys : List Int} (hl : ys.length ≤ 1000) (h : ∀ φ p q : Int, (p.natAbs ≤ 4 ∧ q.natAbs ≤ 4) → TrK X FR (execs (lwD 13) env) ⟨[(Str.ofString "form", .int φ), (Str.ofString "built", .ref 10), (Str.ofString "many", .int 1), (Str.ofString "last", .int g), (Str.ofString "first", .int f)], [.cell none, .cell none, .cell none, .cell (some (.ref 7)), .cell (some (.ref 8)), .acell, .acell, .lst [.int p, .int q], .lst [.ref 9], .lst [.int A, .int B], .lst [.int f]]⟩ KK) : TrK X FR (execs (lwD 11) env) ⟨[(Str.ofString "built", .ref 11), (Str.ofString "many", .int 1), (Str.ofString "last", .int g), (Str.ofString "first", .int f)], [.cell none, .cell none, .cell none, .cell none, .cell (some (.ref 7)), .acell, .cell (some (.ref 9)), .lst [.ref 8], .lst [.int A, .int B], .lst [.ref 10, .int 7], .il ys, .lst [.int f]]⟩ KK := by
  refine lw_blk I ok_hits 11 2 [5, 6] [Str.ofString "form", Str.ofString "built", Str.ofString "many", Str.ofString "last", Str.ofString "first"] ?_
  refine ev (P := draw 2 ys fun φ y1 => draw 9 y1 fun v1 y2 => draw 9 y2 fun v2 y3 => TrK X FR (execs (lwD 13) env) ⟨[(Str.ofString "form", .int φ), (Str.ofString "built", .ref 10), (Str.ofString "many", .int 1), (Str.ofString "last", .int g), (Str.ofString "first", .int f)], [.cell none, .cell none, .cell none, .cell (some (.ref 7)), .cell (some (.ref 8)), .acell, .acell, .lst [.int (v1 - 4), .int (v2 - 4)], .lst [.ref 9], .lst [.int A, .int B], .lst [.int f]]⟩ KK) ?_ ?_
  · kernel_rfl
  · exact draw_i (by decide) hl fun φ y1 c1 l1 => draw_i (by decide) l1 fun v1 y2 c2 l2 => draw_i (by decide) l2 fun v2 y3 c3 l3 => h φ (v1 - 4) (v2 - 4) (p_ok c2 c3)

theorem lwB2 (I : InF P_law 10 0 X env) {ys : List Int} (ht : (t0.natAbs ≤ 3 ∧ t1.natAbs ≤ 3) ∧ t2.natAbs ≤ 3 ∧ t3.natAbs ≤ 3) (h : TrK X FR (execs (lwD 11) env) ⟨[(Str.ofString "built", .ref 12), (Str.ofString "many", .int 2), (Str.ofString "last", .int g), (Str.ofString "first", .int f)], [.cell none, .cell none, .cell none, .cell none, .cell (some (.ref 7)), .acell, .cell (some (.ref 10)), .lst [.ref 8, .ref 9], .lst [.int (f + t2 * (0 + t0 * f) + t3 * (0 + t1 * f + t2 * (g + t0 * 0 + t1 * (0 + t0 * f)))), .int (0 + t1 * f + t2 * (g + t0 * 0 + t1 * (0 + t0 * f)))], .lst [.int (0 + t0 * f + t3 * (g + t0 * 0 + t1 * (0 + t0 * f))), .int (g + t0 * 0 + t1 * (0 + t0 * f))], .lst [.ref 11, .int 7], .il ys, .lst [.int f, .int g]]⟩ KK) : TrK X FR (execs (lwD 6) env) ⟨[(Str.ofString "built", .ref 10), (Str.ofString "many", .int 2), (Str.ofString "last", .int g), (Str.ofString "first", .int f)], [.cell none, .cell none, .cell none, .cell none, .cell none, .cell (some (.ref 7)), .cell (some (.ref 8)), .lst [.int t0, .int t1, .int t2, .int t3], .lst [.ref 9, .int 7], .il ys, .lst [.int f, .int g]]⟩ KK := by
  have s0 : Sm t0 := Sm_of (by omega)
  have s1 : Sm t1 := Sm_of (by omega)
  have s2 : Sm t2 := Sm_of (by omega)
  have s3 : Sm t3 := Sm_of (by omega)
  refine lw_blk I ok_hits 6 5 [5] [Str.ofString "built", Str.ofString "many", Str.ofString "last", Str.ofString "first"] ?_
  refine ev (P := ((0 : Int) ≤ 2 ∧ [AV.ref 0, AV.ref 0].length ≤ 1000) ∧ IntMulOk t0 f ∧ IntMulOk t0 0 ∧ IntMulOk t1 f ∧ IntMulOk t1 (0 + t0 * f) ∧ IntMulOk t2 (0 + t0 * f) ∧ IntMulOk t2 (g + t0 * 0 + t1 * (0 + t0 * f)) ∧ IntMulOk t3 (0 + t1 * f + t2 * (g + t0 * 0 + t1 * (0 + t0 * f))) ∧ IntMulOk t3 (g + t0 * 0 + t1 * (0 + t0 * f)) ∧ TrK X FR (execs (lwD 11) env) ⟨[(Str.ofString "built", .ref 12), (Str.ofString "many", .int 2), (Str.ofString "last", .int g), (Str.ofString "first", .int f)], [.cell none, .cell none, .cell none, .cell none, .cell (some (.ref 7)), .acell, .cell (some (.ref 10)), .lst [.ref 8, .ref 9], .lst [.int (f + t2 * (0 + t0 * f) + t3 * (0 + t1 * f + t2 * (g + t0 * 0 + t1 * (0 + t0 * f)))), .int (0 + t1 * f + t2 * (g + t0 * 0 + t1 * (0 + t0 * f)))], .lst [.int (0 + t0 * f + t3 * (g + t0 * 0 + t1 * (0 + t0 * f))), .int (g + t0 * 0 + t1 * (0 + t0 * f))], .lst [.ref 11, .int 7], .il ys, .lst [.int f, .int g]]⟩ KK) ?_ ?_
  · kernel_rfl
  · exact ⟨⟨by decide, by decide⟩, sq_ok s0, sq_ok s0, sq_ok s1, sq_ok s1, sq_ok s2, sq_ok s2, sq_ok s3, sq_ok s3, h⟩
theorem lwB1 (I : InF P_law 10 0 X env) {ys : List Int} (ht : t1.natAbs ≤ 3 ∧ t3.natAbs ≤ 3) (h : TrK X FR (execs (lwD 11) env) ⟨[(Str.ofString "built", .ref 11), (Str.ofString "many", .int 1), (Str.ofString "last", .int g), (Str.ofString "first", .int f)], [.cell none, .cell none, .cell none, .cell none, .cell (some (.ref 7)), .acell, .cell (some (.ref 9)), .lst [.ref 8], .lst [.int (f + t3 * (0 + t1 * f)), .int (0 + t1 * f)], .lst [.ref 10, .int 7], .il ys, .lst [.int f]]⟩ KK) : TrK X FR (execs (lwD 6) env) ⟨[(Str.ofString "built", .ref 10), (Str.ofString "many", .int 1), (Str.ofString "last", .int g), (Str.ofString "first", .int f)], [.cell none, .cell none, .cell none, .cell none, .cell none, .cell (some (.ref 7)), .cell (some (.ref 8)), .lst [.int t0, .int t1, .int t2, .int t3], .lst [.ref 9, .int 7], .il ys, .lst [.int f]]⟩ KK := by
  have s1 : Sm t1 := Sm_of (by omega)
  have s3 : Sm t3 := Sm_of (by omega)
  refine lw_blk I ok_hits 6 5 [5] [Str.ofString "built", Str.ofString "many", Str.ofString "last", Str.ofString "first"] ?_
  refine ev (P := ((0 : Int) ≤ 1 ∧ [AV.ref 0, AV.ref 0].length ≤ 1000) ∧ IntMulOk t1 f ∧ IntMulOk t3 (0 + t1 * f) ∧ TrK X FR (execs (lwD 11) env) ⟨[(Str.ofString "built", .ref 11), (Str.ofString "many", .int 1), (Str.ofString "last", .int g), (Str.ofString "first", .int f)], [.cell none, .cell none, .cell none, .cell none, .cell (some (.ref 7)), .acell, .cell (some (.ref 9)), .lst [.ref 8], .lst [.int (f + t3 * (0 + t1 * f)), .int (0 + t1 * f)], .lst [.ref 10, .int 7], .il ys, .lst [.int f]]⟩ KK) ?_ ?_
  · kernel_rfl
  · exact ⟨⟨by decide, by decide⟩, sq_ok s1, sq_ok s3, h⟩

theorem lwT2 (I : InF P_law 10 0 X env) {ys : List Int} (hl : ys.length ≤ 1000) (h : ∀ (t0 t1 t2 t3 : Int) (ys : List Int), ys.length ≤ 1000 → ((t0.natAbs ≤ 3 ∧ t1.natAbs ≤ 3) ∧ t2.natAbs ≤ 3 ∧ t3.natAbs ≤ 3) → TrK X FR (execs (lwD 6) env) ⟨[(Str.ofString "built", .ref 10), (Str.ofString "many", .int 2), (Str.ofString "last", .int g), (Str.ofString "first", .int f)], [.cell none, .cell none, .cell none, .cell none, .cell none, .cell (some (.ref 7)), .cell (some (.ref 8)), .lst [.int t0, .int t1, .int t2, .int t3], .lst [.ref 9, .int 7], .il ys, .lst [.int f, .int g]]⟩ KK) : TrK X FR (execs (lwD 4) env) ⟨[(Str.ofString "many", .int 2), (Str.ofString "last", .int g), (Str.ofString "first", .int f)], [.cell none, .cell none, .cell none, .cell none, .cell none, .cell none, .cell (some (.ref 7)), .lst [.ref 8, .int 3], .il ys]⟩ KK := by
  refine lw_blk I ok_hits 4 2 [] [Str.ofString "built", Str.ofString "many", Str.ofString "last", Str.ofString "first"] ?_
  refine ev (P := ((0 : Int) ≤ 2 ∧ [AV.int f, AV.int g].length ≤ 1000) ∧ draw 7 ys fun v1 y1 => draw 7 y1 fun v2 y2 => draw 7 y2 fun v3 y3 => draw 7 y3 fun v4 y4 => TrK X FR (execs (lwD 6) env) ⟨[(Str.ofString "built", .ref 10), (Str.ofString "many", .int 2), (Str.ofString "last", .int g), (Str.ofString "first", .int f)], [.cell none, .cell none, .cell none, .cell none, .cell none, .cell (some (.ref 7)), .cell (some (.ref 8)), .lst [.int (v1 - 3), .int (v2 - 3), .int (v3 - 3), .int (v4 - 3)], .lst [.ref 9, .int 7], .il y4, .lst [.int f, .int g]]⟩ KK) ?_ ?_
  · kernel_rfl
  · exact ⟨⟨by decide, (show (2 : Nat) ≤ 1000 by decide)⟩, draw_i (by decide) hl fun v1 y1 c1 l1 => draw_i (by decide) l1 fun v2 y2 c2 l2 => draw_i (by decide) l2 fun v3 y3 c3 l3 => draw_i (by decide) l3 fun v4 y4 c4 l4 => h _ _ _ _ _ l4 (t_ok c1 c2 c3 c4)⟩

theorem lwT1 (I : InF P_law 10 0 X env) {ys : List Int} (hl : ys.length ≤ 1000) (h : ∀ (t0 t1 t2 t3 : Int) (ys : List Int), ys.length ≤ 1000 → ((t0.natAbs ≤ 3 ∧ t1.natAbs ≤ 3) ∧ t2.natAbs ≤ 3 ∧ t3.natAbs ≤ 3) → TrK X FR (execs (lwD 6) env) ⟨[(Str.ofString "built", .ref 10), (Str.ofString "many", .int 1), (Str.ofString "last", .int g), (Str.ofString "first", .int f)], [.cell none, .cell none, .cell none, .cell none, .cell none, .cell (some (.ref 7)), .cell (some (.ref 8)), .lst [.int t0, .int t1, .int t2, .int t3], .lst [.ref 9, .int 7], .il ys, .lst [.int f]]⟩ KK) : TrK X FR (execs (lwD 4) env) ⟨[(Str.ofString "many", .int 1), (Str.ofString "last", .int g), (Str.ofString "first", .int f)], [.cell none, .cell none, .cell none, .cell none, .cell none, .cell none, .cell (some (.ref 7)), .lst [.ref 8, .int 3], .il ys]⟩ KK := by
  refine lw_blk I ok_hits 4 2 [] [Str.ofString "built", Str.ofString "many", Str.ofString "last", Str.ofString "first"] ?_
  refine ev (P := ((0 : Int) ≤ 1 ∧ [AV.int f, AV.int g].length ≤ 1000) ∧ draw 7 ys fun v1 y1 => draw 7 y1 fun v2 y2 => draw 7 y2 fun v3 y3 => draw 7 y3 fun v4 y4 => TrK X FR (execs (lwD 6) env) ⟨[(Str.ofString "built", .ref 10), (Str.ofString "many", .int 1), (Str.ofString "last", .int g), (Str.ofString "first", .int f)], [.cell none, .cell none, .cell none, .cell none, .cell none, .cell (some (.ref 7)), .cell (some (.ref 8)), .lst [.int (v1 - 3), .int (v2 - 3), .int (v3 - 3), .int (v4 - 3)], .lst [.ref 9, .int 7], .il y4, .lst [.int f]]⟩ KK) ?_ ?_
  · kernel_rfl
  · exact ⟨⟨by decide, (show (2 : Nat) ≤ 1000 by decide)⟩, draw_i (by decide) hl fun v1 y1 c1 l1 => draw_i (by decide) l1 fun v2 y2 c2 l2 => draw_i (by decide) l2 fun v3 y3 c3 l3 => draw_i (by decide) l3 fun v4 y4 c4 l4 => h _ _ _ _ _ l4 (t_ok c1 c2 c3 c4)⟩

theorem lwA (I : InF P_law 10 0 X env) {xs : List Int} (hl : xs.length ≤ 1000) (h2 : ∀ (f g : Int) (ys : List Int), ys.length ≤ 1000 → ((0 < f ∧ f ≤ 3) ∧ (g = f ∨ g = 2 * f)) → TrK X FR (execs (lwD 4) env) ⟨[(Str.ofString "many", .int 2), (Str.ofString "last", .int g), (Str.ofString "first", .int f)], [.cell none, .cell none, .cell none, .cell none, .cell none, .cell none, .cell (some (.ref 7)), .lst [.ref 8, .int 3], .il ys]⟩ KK) (h1 : ∀ (f g : Int) (ys : List Int), ys.length ≤ 1000 → (0 < f ∧ f ≤ 3) → TrK X FR (execs (lwD 4) env) ⟨[(Str.ofString "many", .int 1), (Str.ofString "last", .int g), (Str.ofString "first", .int f)], [.cell none, .cell none, .cell none, .cell none, .cell none, .cell none, .cell (some (.ref 7)), .lst [.ref 8, .int 3], .il ys]⟩ KK) : TrK X FR (execs (lwD 1) env) ⟨[], [.cell none, .cell none, .cell none, .cell none, .cell none, .cell none, .cell (some (.ref 7)), .lst [.ref 8, .int 0], .il xs]⟩ KK := by
  refine lw_blk I ok_hits 1 3 [] [Str.ofString "many", Str.ofString "last", Str.ofString "first"] ?_
  refine ev (P := draw 3 xs fun v1 y1 => draw 2 y1 fun v2 y2 => IntMulOk (1 + v1) (2 - v2) ∧ draw 2 y2 fun v3 y3 => TrK X FR (execs (lwD 4) env) ⟨[(Str.ofString "many", .int (2 - v3)), (Str.ofString "last", .int ((1 + v1) * (2 - v2))), (Str.ofString "first", .int (1 + v1))], [.cell none, .cell none, .cell none, .cell none, .cell none, .cell none, .cell (some (.ref 7)), .lst [.ref 8, .int 3], .il y3]⟩ KK) ?_ ?_
  · kernel_rfl
  · refine draw_i (by decide) hl fun v1 y1 c1 l1 => draw_i (by decide) l1 fun v2 y2 c2 l2 => ⟨sq_ok (f_sm (fg_ok c1 c2).1), draw_i (by decide) l2 fun v3 y3 c3 l3 => ?_⟩
    rcases v01 c3 with rfl | rfl
    · exact h2 (1 + v1) _ _ l3 (fg_ok c1 c2)
    · exact h1 (1 + v1) _ _ l3 (fg_ok c1 c2).1
theorem law2 (I : InF P_law 10 0 X env) {ys : List Int} (hl : ys.length ≤ 1000) (hfg : (0 < f ∧ f ≤ 3) ∧ (g = f ∨ g = 2 * f)) : TrK X FR (execs (lwD 4) env) ⟨[(Str.ofString "many", .int 2), (Str.ofString "last", .int g), (Str.ofString "first", .int f)], [.cell none, .cell none, .cell none, .cell none, .cell none, .cell none, .cell (some (.ref 7)), .lst [.ref 8, .int 3], .il ys]⟩ KK := by
  refine lwT2 I hl fun t0 t1 t2 t3 ys hl ht => lwB2 I ht ?_
  refine genB (Q := fun A B C D => TrK X FR (execs (lwD 11) env) ⟨[(Str.ofString "built", .ref 12), (Str.ofString "many", .int 2), (Str.ofString "last", .int g), (Str.ofString "first", .int f)], [.cell none, .cell none, .cell none, .cell none, .cell (some (.ref 7)), .acell, .cell (some (.ref 10)), .lst [.ref 8, .ref 9], .lst [.int A, .int B], .lst [.int C, .int D], .lst [.ref 11, .int 7], .il ys, .lst [.int f, .int g]]⟩ KK) (f := f) (g := g) (t0 := t0) (t1 := t1) (t2 := t2) (t3 := t3) ⟨hfg, ht, rfl, rfl, rfl, rfl⟩ ?_
  intro A B C D hB
  obtain ⟨bx, bm, hD, hD5, sA, sB, sC, sD⟩ := hB.hy
  obtain ⟨k, hk, rfl⟩ : ∃ k : Nat, (k = 1 ∨ k = 2 ∨ k = 3 ∨ k = 4 ∨ k = 6) ∧ g = Int.ofNat k := kOf hfg
  have hk6 := k6 hk
  refine lwC2 I hl fun φ p q hpq => ?_
  have go : ∀ r0 r1 : Int, (φ = 0 → r0 = A * p + B * q ∧ r1 = C * p + D * q) → (r0.natAbs ≤ 10000 ∧ r1.natAbs ≤ 10000) → TrK X FR (execs (lwD 14) env) ⟨[(Str.ofString "form", .int φ), (Str.ofString "built", .ref 12), (Str.ofString "many", .int 2), (Str.ofString "last", .int (Int.ofNat k)), (Str.ofString "first", .int f)], [.cell none, .cell none, .cell (some (.ref 7)), .cell (some (.ref 8)), .cell (some (.ref 9)), .acell, .acell, .lst [.int r0, .int r1], .lst [.int p, .int q], .lst [.ref 10, .ref 11], .lst [.int A, .int B], .lst [.int C, .int D], .lst [.int f, .int (Int.ofNat k)]]⟩ KK := by
    intro r0 r1 e0 hr
    have hC : ∀ n : Int, 1 ≤ n → n < 1 + (k : Int) → 0 ≤ n ∧ n ≤ 100 ∧ n ≠ 0 ∧ Sm A ∧ Sm B ∧ Sm C ∧ Sm D := fun n h1 h2 => ⟨(n_ok hk6 h1 h2).1, (n_ok hk6 h1 h2).2.1, (n_ok hk6 h1 h2).2.2, sA, sB, sC, sD⟩
    refine lwE2 I ⟨bx, bm, hD, hD5⟩ hr (fun _ _ _ _ _ _ _ _ _ _ F => hB.eqs F) (fun hn => ?_) fun u v hs => ?_
    · refine lw_end I ok_hits 17 ((lwFn2 k hk).mpr ?_)
      refine hN_i ?_ k 1 hC
      have e := hB.none (r0 := r0) (r1 := r1) hn
      show AF.ret (.bool ((0 + cO (P2 A B C D r0 r1 (Int.ofNat k)) (Int.ofNat k).toNat 0 (Int.ofNat k).toNat) == 0)) = _
      rw [e]; rfl
    · refine lw_end I ok_hitsP 17 ((lwFs2 k hk).mpr ?_)
      refine hS_i k 1 0 (fun n h1 h2 => ⟨hC n h1 h2, ?_⟩) (fun e => absurd e (Nat.ne_of_gt hk6.1)) fun b hb => ?_
      · obtain ⟨j, rfl, j1, j2⟩ := n_nat h1 h2
        have e := hB.some hs (n := j) j1 j2
        exact pos_nn (Int.add_nonneg (Int.le_refl 0) (cO_nn' _ _)) e
      · have e := hB.full (r0 := r0) (r1 := r1) hs
        have hb : b = f * Int.ofNat k := by
          rw [hb, ← e]
          rw [k_last k]
        have fin : IntMulOk A u ∧ IntMulOk B v ∧ IntMulOk C u ∧ IntMulOk D v ∧ (AF.ret (.bool (decide ([A * u + B * v, C * u + D * v] = [r0, r1]))) = AF.ret (.bool true)) := ⟨sq_ok sA, sq_ok sB, sq_ok sC, sq_ok sD, by rw [hs.1, hs.2]; simp⟩
        refine ⟨sq_ok (f_sm hfg.1), vBrN (fun h => absurd hb h) fun _ => vBr_i (fun h => ?_) fun _ => fin⟩
        obtain ⟨e1, e2⟩ := e0 (beq_iff_eq.mp h)
        obtain ⟨a1, a2⟩ := hB.uniq ⟨e1.symm, e2.symm⟩ hs
        exact vBr_i (fun h => by rw [a1, a2] at h; simp at h) fun _ => fin
  refine lwD2 I ⟨sA, sB, sC, sD⟩ (fun h => go _ _ (fun _ => ⟨rfl, rfl⟩) (hB.rb hpq)) fun h => go _ _ (fun e => absurd e h) (le4 hpq)
theorem law1 (I : InF P_law 10 0 X env) {ys : List Int} (hl : ys.length ≤ 1000) (hf : 0 < f ∧ f ≤ 3) : TrK X FR (execs (lwD 4) env) ⟨[(Str.ofString "many", .int 1), (Str.ofString "last", .int g), (Str.ofString "first", .int f)], [.cell none, .cell none, .cell none, .cell none, .cell none, .cell none, .cell (some (.ref 7)), .lst [.ref 8, .int 3], .il ys]⟩ KK := by
  refine lwT1 I hl fun t0 t1 t2 t3 ys hl ht => lwB1 I ⟨ht.1.2, ht.2.2⟩ ?_
  refine genB1 (Q := fun A B => TrK X FR (execs (lwD 11) env) ⟨[(Str.ofString "built", .ref 11), (Str.ofString "many", .int 1), (Str.ofString "last", .int g), (Str.ofString "first", .int f)], [.cell none, .cell none, .cell none, .cell none, .cell (some (.ref 7)), .acell, .cell (some (.ref 9)), .lst [.ref 8], .lst [.int A, .int B], .lst [.ref 10, .int 7], .il ys, .lst [.int f]]⟩ KK) (f := f) (t1 := t1) (t3 := t3) ⟨hf, ⟨ht.1.2, ht.2.2⟩, rfl, rfl⟩ ?_
  intro A B hB
  obtain ⟨bx, bm, sA, sB⟩ := hB.hy
  obtain ⟨k, hk, rfl⟩ : ∃ k : Nat, (k = 1 ∨ k = 2 ∨ k = 3) ∧ f = Int.ofNat k := kOf1 hf
  have hk6 := k3 hk
  refine lwC1 I hl fun φ p q hpq => ?_
  have go : ∀ r0 : Int, r0.natAbs ≤ 10000 → TrK X FR (execs (lwD 14) env) ⟨[(Str.ofString "form", .int φ), (Str.ofString "built", .ref 11), (Str.ofString "many", .int 1), (Str.ofString "last", .int g), (Str.ofString "first", .int (Int.ofNat k))], [.cell none, .cell none, .cell (some (.ref 7)), .cell (some (.ref 8)), .cell (some (.ref 9)), .acell, .acell, .lst [.int r0], .lst [.int p, .int q], .lst [.ref 10], .lst [.int A, .int B], .lst [.int (Int.ofNat k)]]⟩ KK := by
    intro r0 hr
    have hC : ∀ n : Int, 1 ≤ n → n < 1 + (k : Int) → 0 ≤ n ∧ n ≤ 100 ∧ n ≠ 0 ∧ Sm A ∧ Sm B := fun n h1 h2 => ⟨(n_ok hk6 h1 h2).1, (n_ok hk6 h1 h2).2.1, (n_ok hk6 h1 h2).2.2, sA, sB⟩
    refine lwE1 I ⟨bx, bm⟩ hr ⟨sA, sB⟩ (fun _ _ _ _ _ _ F => hB.eqs F) (fun hn ku kv => ?_) fun u v hs ku kv => ?_
    · refine lw_end I ok_hits 17 ((lwFn1 k hk).mpr ?_)
      refine hN_i ?_ k 1 hC
      have e := hB.none (r0 := r0) hn
      show AF.ret (.bool ((0 + cO (P1 A B r0 (Int.ofNat k)) (Int.ofNat k).toNat 0 (Int.ofNat k).toNat) == 0)) = _
      rw [e]; rfl
    · refine lw_end I ok_hitsP 17 ((lwFs1 k hk).mpr ?_)
      refine hS_i k 1 0 (fun n h1 h2 => ⟨hC n h1 h2, ?_⟩) (fun e => absurd e (Nat.ne_of_gt hk6.1)) fun b hb => ?_
      · obtain ⟨j, rfl, j1, j2⟩ := n_nat h1 h2
        have e := hB.some hs (n := j) j1 j2
        exact pos_nn (Int.add_nonneg (Int.le_refl 0) (cO_nn' _ _)) e
      · have e := hB.full (r0 := r0) hs
        have hb : b = Int.ofNat k * Int.ofNat k := by
          rw [hb, ← e]
          rw [k_last k]
        have fin : IntMulOk A u ∧ IntMulOk B v ∧ (AF.ret (.bool (decide ([A * u + B * v] = [r0]))) = AF.ret (.bool true)) := ⟨sq_ok sA, sq_ok sB, by rw [hs]; simp⟩
        exact ⟨sq_ok (k_sm hk6), vBrN (fun h => absurd hb h) fun _ => vBr_i (fun _ => fin) fun _ => fin⟩
  refine lwD1 I ⟨sA, sB⟩ (fun h => go _ (hB.rb hpq)) fun h => go _ (le4 hpq).1
end
end
noncomputable section
/-- the law's first statement -/
structure BxB where
  xp : Pos
  p1 : Pos
  p2 : Pos
  p3 : Pos
  p4 : Pos
  p5 : Pos
  p6 : Pos
  p7 : Pos
  p8 : Pos
  p9 : Pos
  p10 : Pos
  p11 : Pos
  p12 : Pos
  j1 : Nat
  j2 : Nat
  sc : Scope
  eq : lwD 0 = .Assign [.Name (Str.ofString "box") xp] (.List [.ListComp (.Call (.Name (Str.ofString "int") p1) [.Name (Str.ofString "one") p2] [] p3) [⟨.Name (Str.ofString "one") p4, .Subscript (.Name (Str.ofString "script") p5) (.Slice none (some (.Constant (.int 10) j1 p6)) none p7) p8, [], 0⟩] sc p9, .Constant (.int 0) j2 p10] p11) p12 :: lwD 1
noncomputable def bxB : BxB := ⟨_, _, _, _, _, _, _, _, _, _, _, _, _, _, _, _, rfl⟩
theorem lw0 {X : Cx} {env : Env} (I : InF P_law 10 0 X env) {ad : Addr} {cs : List Value} {ns : List Int} (hL : X.h₀.IsList ad cs.toArray) (hI : IntsAre cs ns) (hns : ns.length ≤ 63) : TrK X FR (execs (lwD 0) env) ⟨[(Str.ofString "script", .fn (.ref ad))], [.cell none, .cell none, .cell none, .cell none, .cell none, .cell none, .cell none]⟩ KK := by
  have V : VEnv X (lwV s_hits) env := I.V (FNs.le (by decide) (fnL_ok ok_hits))
  have h7 : X.θ₀.length = 7 := I.hθ
  rw [bxB.eq]
  refine TK_step (T_assign ?_ (swB_ok V rfl))
  refine T_list (TL_cons ?_ (star_ok rfl env _))
  obtain ⟨cl', hc', ha⟩ := clo_al V.cel bxB.sc.names (show cloA (lwV s_hits).cells bxB.sc.names [] = some [] by kernel_rfl) .nil
  have hfn : bxB.sc.kind = .function := by kernel_rfl
  have hlo : locOk bxB.sc.names = true := by kernel_rfl
  have hce : cellNames bxB.sc.names = [] := by kernel_rfl
  refine T_comp (clo_ok hc') hfn (locOk_ok hlo) (cells0 hce) (TIt_list ?_) (it_ok rfl env)
  refine T_sliceFn hL hI (x := 10) (by decide) (by omega) ?_
  refine V.ec.name (v := .fn (.ref ad)) (by kernel_rfl) ⟨rfl, T_int ⟨rfl, _, _, rfl, rfl, ⟨_, rfl, .inl ⟨_, _, rfl⟩⟩, fun C θ₁ p hC => ?_⟩⟩
  (show TrCp _ _ _ _ _ ⟨[(Str.ofString "script", .fn (.ref ad))], [.cell none, .cell none, .cell none, .cell none, .cell none, .cell none, .cell none, .lst ((ns.take 10).map .int)] ++ [.li 7 0, .lst [], .ns []]⟩ _)
  have Vc := V.comp hfn ha p hC
  have hkl : (compEnvC bxB.sc cl' C env).kindOf (Str.ofString "one") = some .local := by
    unfold Env.kindOf
    rw [Vc.nam]
    kernel_rfl
  have hkk : ((compEnvC bxB.sc cl' C env).scope.kind == .class || ((compEnvC bxB.sc cl' C env).scope.kind == .module && (compEnvC bxB.sc cl' C env).locals != (compEnvC bxB.sc cl' C env).globals)) = false := by
    rw [Vc.kind]; rfl
  refine TCp_map (f := id) rfl hC rfl (by simp; omega) ?_ ?_ hkl hkk
  · intro i l v done K' hi hK'
    obtain ⟨z, rfl⟩ : ∃ z, v = .int z := by
      rw [List.getElem?_map] at hi
      cases hz : (ns.take 10)[i]? with
      | none => rw [hz] at hi; cases hi
      | some z => rw [hz] at hi; cases hi; exact ⟨z, rfl⟩
    refine vExp_ok (orc_ok 9) Vc (r := 9) (Fram.at I.Fm) (ev ?_ hK')
    kernel_rfl
  · intro lc
    refine ⟨⟨_, rfl⟩, ?_⟩
    refine TL_cons (T_int (TL_nil ⟨(show (2 : Nat) ≤ 9 by decide), vStore_ok V ?_⟩)) (star_ok rfl env _)
    refine ev (P := TrK X FR (execs (lwD 1) env) ⟨[(Str.ofString "script", .fn (.ref ad))], [.cell none, .cell none, .cell none, .cell none, .cell none, .cell none, .cell (some (.ref 11)), .lst ((ns.take 10).map .int), .gone, .lst (List.map id ((ns.take 10).map .int)), .gone, .lst [.ref 9, .int 0]]⟩ KK) ?_ ?_
    · kernel_rfl
    refine TK_il (k := 9) (vs := List.map id ((ns.take 10).map .int)) (ns := ns.take 10) rfl (by rw [List.map_id]; exact ints_map _) ?_
    refine TK_gc (n := 7) (ρ := [0, 1, 2, 3, 4, 5, 6, 11, 9]) (S₀ := ⟨[], [.cell none, .cell none, .cell none, .cell none, .cell none, .cell none, .cell (some (.ref 7)), .lst [.ref 8, .int 0], .il (ns.take 10)]⟩) h7 (Gc.of (by decide) (by decide) rfl rfl dnL.nil) ?_
    refine lwA I (by rw [List.length_take]; omega) (fun f g ys hl h => law2 I hl h) fun f g ys hl h => law1 I hl h

theorem stair {d : Nat} {l : List Nat} (h : (∀ x ∈ l, x < d) ∧ l.Nodup) : (∀ x ∈ d :: l, x < d + 1) ∧ (d :: l).Nodup := ⟨fun x hx => (List.mem_cons.mp hx).elim (fun e => e ▸ Nat.lt_succ_self d) fun hx => Nat.lt_succ_of_lt (h.1 x hx), List.nodup_cons.mpr ⟨fun hd => Nat.lt_irrefl d (h.1 d hd), h.2⟩⟩
theorem law_core {X : Cx} {env : Env} (Fm : Fram X env 20) (hθ : X.θ₀.length = 7) (hc : A2 (CA X.θ₀) [(Str.ofString "free", 0), (Str.ofString "found", 1), (Str.ofString "right", 2), (Str.ofString "planted", 3), (Str.ofString "a", 4), (Str.ofString "times", 5), (Str.ofString "box", 6)] env.cells) (hk : env.scope.kind = .function) (hg : env.globals = mainGlobals) (hb : env.builtins = builtinsNs) (hn : env.scope.names = P_law.scope.names) (he : ∃ cn cs a ccd, env = envX cn cs X.L a ccd env.cells)
    {ad : Addr} {cs : List Value} {ns : List Int} (hL : X.h₀.IsList ad cs.toArray) (hI : IntsAre cs ns) (hns : ns.length ≤ 63) : TrK X FR (execs P_law.body env) ⟨[(Str.ofString "script", .fn (.ref ad))], [.cell none, .cell none, .cell none, .cell none, .cell none, .cell none, .cell none]⟩ fun f _ => f = .ret (.bool true) := by
  have hc : A2 (CA X.θ₀) (numb 0 (cellNs P_law.scope.names)) env.cells := hc
  have I : InF P_law 10 0 X env := ⟨Fram.le (by decide) Fm, fun hfn => ⟨hk, hg, hb, hn, hc, .inl ⟨rfl, by kernel_rfl, he⟩, ⟨Fm.k, Fm.t, gbs_ok _, fun x sp e => by
    obtain ⟨fa', e1, e2, e3, e4⟩ := hfn X.w.params x sp e
    exact ⟨fa', e1, e2, e3, fun vs S K hs => e4 (Fram.le (by decide) Fm) vs S K hs⟩⟩⟩, hθ⟩
  exact lw0 I hL hI hns
end

theorem law_holds : PySem.Challenge.rw_tk0015_01.Holds := hd (by
  k_go0
  rename_i w s₀ s₁ mg mb G Y fa o pm doc ho hg KX X V GL T B TE TW a1 o1 M a2 a3 hcd ns hs hlay0 hL1 hr1 hl2 l1 l2 ad vs as hL ra w1 r0 hI hr hc63 hct K0 hD h₁ tk₁ F w6 w5 w4 w3 w2 w1' w0 c6 c5 c4 c3 c2 c1 c0 N0 X0
  have hns : ns.length ≤ 63 := by omega
  obtain ⟨θ, hθ⟩ : ∃ θ : List Addr, θ = [s₁.heap.objs.size + 1 + 1 + 1 + 1 + 1 + 1 + 1, s₁.heap.objs.size + 1 + 1 + 1 + 1 + 1 + 1, s₁.heap.objs.size + 1 + 1 + 1 + 1 + 1, s₁.heap.objs.size + 1 + 1 + 1 + 1, s₁.heap.objs.size + 1 + 1 + 1, s₁.heap.objs.size + 1 + 1, s₁.heap.objs.size + 1] := ⟨_, rfl⟩
  refine law_enter (θ := θ) (S := ⟨[(Str.ofString "script", .fn (.ref ad))], [.cell none, .cell none, .cell none, .cell none, .cell none, .cell none, .cell none]⟩) F N0 hθ ?Dzz ?Ozz ?Vzz ?hzz ?Qzz
  case Dzz => exact ⟨(stair (stair (stair (stair (stair (stair (stair ⟨fun _ h => (List.not_mem_nil h).elim, List.nodup_nil⟩))))))).2⟩
  case Ozz => exact .cons (.cell0 c6) (.cons (.cell0 c5) (.cons (.cell0 c4) (.cons (.cell0 c3) (.cons (.cell0 c2) (.cons (.cell0 c1) (.cons (.cell0 c0) .nil))))))
  case Vzz => exact LocR.cons rfl .fn .nil
  case Qzz =>
    intro m' h' tk' news F' N'
    k_steps
  case hzz =>
    have hcl0 : θ[0]? = some (s₁.heap.objs.size + 1 + 1 + 1 + 1 + 1 + 1 + 1) := by rw [hθ]; rfl
    have hcl1 : θ[1]? = some (s₁.heap.objs.size + 1 + 1 + 1 + 1 + 1 + 1) := by rw [hθ]; rfl
    have hcl2 : θ[2]? = some (s₁.heap.objs.size + 1 + 1 + 1 + 1 + 1) := by rw [hθ]; rfl
    have hcl3 : θ[3]? = some (s₁.heap.objs.size + 1 + 1 + 1 + 1) := by rw [hθ]; rfl
    have hcl4 : θ[4]? = some (s₁.heap.objs.size + 1 + 1 + 1) := by rw [hθ]; rfl
    have hcl5 : θ[5]? = some (s₁.heap.objs.size + 1 + 1) := by rw [hθ]; rfl
    have hcl6 : θ[6]? = some (s₁.heap.objs.size + 1) := by rw [hθ]; rfl
    have hθn : θ.length = 7 := by rw [hθ]; rfl
    clear hθ
    refine with_fram KX T rfl rfl (fun Fm => ?_)
    exact law_core Fm hθn (.cons ⟨rfl, hcl0⟩ (.cons ⟨rfl, hcl1⟩ (.cons ⟨rfl, hcl2⟩ (.cons ⟨rfl, hcl3⟩ (.cons ⟨rfl, hcl4⟩ (.cons ⟨rfl, hcl5⟩ (.cons ⟨rfl, hcl6⟩ .nil))))))) rfl rfl rfl rfl ⟨_, _, _, _, rfl⟩ hL hI hns)
end Mine
theorem PySem.Challenge.cw_tk0015_01_holds : PySem.Challenge.rw_tk0015_01.Holds :=
  Mine.law_holds
