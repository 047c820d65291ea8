import PyProof.Rows.All
import Wide.All
import OpenK.AllK
import Wide.FinOn
import PySem.Challenge.RW_no0350_01
section
open PySem PySem.W PyProof.Rows
set_option Elab.async false
namespace Mine
set_option maxRecDepth 100000 in
set_option maxHeartbeats 8000000 in
open_top hd for PySem.Challenge.rw_no0350_01
end Mine
end
section
open PySem PySem.W PyProof.Rows PyProof.V PySem.Spec PySem.Calls
set_option Elab.async false
set_option maxRecDepth 100000
namespace Mine

/-- what is there before is there after -/
abbrev Kp (h h' : Heap) : Prop := ∀ b o, h.get? b = some o → h'.get? b = some o

theorem Kp.none {h h' : Heap} (k : Kp h h') {b : Addr} (e : h'.get? b = none) : h.get? b = none := by
  cases q : h.get? b with
  | none => rfl
  | some o => have := k b o q; rw [e] at this; cases this

theorem none_of_size {h : Heap} {b : Addr} (e : h.objs.size ≤ b) : h.get? b = none := by
  cases q : h.get? b with
  | none => rfl
  | some o => exact absurd (Heap.lt_size q) (Nat.not_lt.mpr e)

section
variable {prog : Program} {w : World} {A : Around} {E : Value → Shared → Prop} {s : Shared}

/-- an iterator over n items that is just made, over the heap hb -/
def GoIt (prog : Program) (w : World) (A : Around) (target : Expr) (hb : Heap) (s : Shared) (n : Nat) (P : Nat → Value → Heap → Prop) (src : List Addr) (it : Value) (s₂ : Shared) : Prop :=
  ∃ (I : Addr) (fp wr : List Addr) (Md : Nat → Value → Heap → Prop) (St : Nat → Heap → Prop) (h' : Heap), it = .ref I ∧ s₂ = { s with heap := h' } ∧ KTurns prog w A target I fp wr n P Md St ∧ St 0 h' ∧ Kp hb h' ∧ hb.objs.size ≤ h'.objs.size ∧
    (∀ b ∈ wr, hb.get? b = none) ∧ (∀ b ∈ fp, b < h'.objs.size) ∧ (∀ b ∈ fp, hb.get? b = none ∨ b ∈ src) ∧
    (∀ (s : Shared) (Q : Value → Shared → Prop) (E : Value → Shared → Prop), St 0 s.heap → Q (.ref I) s → wpAny (model prog w) A (pyIter (.ref I)) Q E s)

theorem go_name {x : Str} {px : Pos} {v r : Value} {Q : Unit → Shared → Prop} (h : Q () s) : wpAny (model prog w) A (letOwnedTupleGo (.Name x px) v r) Q E s := by
  have e : letOwnedTupleGo (.Name x px) v r = pure () := rfl
  rw [e]
  exact wpAny_pure h

theorem it_list {x : Str} {px : Pos} {l : Addr} {items : Array Value} (hh : A.handled = none) (hl : s.heap.IsList l items) :
    wpAny (model prog w) A (pyIter (.ref l)) (GoIt prog w A (.Name x px) s.heap s items.size (fun i v _ => items[i]? = some v) [l]) E s := by
  have hlt : l < s.heap.objs.size := by obtain ⟨o, ho, _⟩ := hl; exact Heap.lt_size ho
  refine wpAny_pyIter_list hl ?_
  have W := Walks.list (prog := prog) (w := w) hh s.heap.objs.size l (Nat.ne_of_lt hlt) items
  refine ⟨_, _, _, _, _, _, rfl, rfl, KTurns.ofWalks W (fun i v s Q E st h => go_name h), ⟨⟨_, Heap.get?_push_size _ rfl, rfl, rfl⟩, hl.at fun o e => Heap.get?_push_of_some _ e⟩, fun b o e => Heap.get?_push_of_some _ e, Nat.le_of_lt (by rw [Heap.size_push]; exact Nat.lt_succ_self _), ?_, ?_, ?_, fun s Q E st h => W.self 0 s Q E st h⟩
  · intro b hb
    rw [List.mem_singleton.mp hb]
    exact none_of_size (Nat.le_refl _)
  · intro b hb
    rw [Heap.size_push]
    rcases List.mem_cons.mp hb with rfl | hb
    · exact Nat.lt_succ_self _
    · rw [List.mem_singleton.mp hb]; exact Nat.lt_succ_of_lt hlt
  · intro b hb
    rcases List.mem_cons.mp hb with rfl | hb
    · exact .inl (none_of_size (Nat.le_refl _))
    · exact .inr hb

theorem it_tuple {x : Str} {px : Pos} {l : Addr} {items : Array Value} (hh : A.handled = none) (hl : s.heap.IsTuple l items) :
    wpAny (model prog w) A (pyIter (.ref l)) (GoIt prog w A (.Name x px) s.heap s items.size (fun i v _ => items[i]? = some v) [l]) E s := by
  have hlt : l < s.heap.objs.size := by obtain ⟨o, ho, _⟩ := hl; exact Heap.lt_size ho
  refine wpAny_pyIter_tuple hl ?_
  have W := Walks.tuple (prog := prog) (w := w) hh s.heap.objs.size l (Nat.ne_of_lt hlt) items
  refine ⟨_, _, _, _, _, _, rfl, rfl, KTurns.ofWalks W (fun i v s Q E st h => go_name h), ⟨⟨_, Heap.get?_push_size _ rfl, rfl, rfl⟩, hl.at fun o e => Heap.get?_push_of_some _ e⟩, fun b o e => Heap.get?_push_of_some _ e, Nat.le_of_lt (by rw [Heap.size_push]; exact Nat.lt_succ_self _), ?_, ?_, ?_, fun s Q E st h => W.self 0 s Q E st h⟩
  · intro b hb
    rw [List.mem_singleton.mp hb]
    exact none_of_size (Nat.le_refl _)
  · intro b hb
    rw [Heap.size_push]
    rcases List.mem_cons.mp hb with rfl | hb
    · exact Nat.lt_succ_self _
    · rw [List.mem_singleton.mp hb]; exact Nat.lt_succ_of_lt hlt
  · intro b hb
    rcases List.mem_cons.mp hb with rfl | hb
    · exact .inl (none_of_size (Nat.le_refl _))
    · exact .inr hb

theorem it_str {x : Str} {px : Pos} {y : Str} {t : Tok} (hh : A.handled = none) :
    wpAny (model prog w) A (pyIter (.str y t)) (GoIt prog w A (.Name x px) s.heap s y.cps.size (fun i v _ => SignAt y i v) []) E s := by
  refine wpAny_pyIter_str fun o St W st => ?_
  have W := W A hh
  refine ⟨_, _, _, _, _, _, rfl, rfl, KTurns.ofWalks W (fun i v s Q E st h => go_name h), st, fun b o e => Heap.get?_push_of_some _ e, Nat.le_of_lt (by rw [Heap.size_push]; exact Nat.lt_succ_self _), ?_, ?_, ?_, fun s Q E st h => W.self 0 s Q E st h⟩
  · intro b hb
    rw [List.mem_singleton.mp hb]
    exact none_of_size (Nat.le_refl _)
  · intro b hb
    rw [Heap.size_push, List.mem_singleton.mp hb]
    exact Nat.lt_succ_self _
  · intro b hb
    rw [List.mem_singleton.mp hb]
    exact .inl (none_of_size (Nat.le_refl _))

theorem draws_str (hh : A.handled = none) (it : Addr) (x : Str) (t : Tok) :
    Draws prog w A it [it] x.cps.size (SignAt x) (fun i h => h.IsStrIter it (strIterType x) x t i) := by
  unfold strIterType
  split
  · exact Draws.strAscii hh it x t
  · exact Draws.strWide hh it x t

end

section
variable {prog : Program} {w : World} {A : Around} {E : Value → Shared → Prop} {s : Shared} {env : Env} {h₀ : Heap} {target : Expr} {body : List Stmt} {Q : Flow → Shared → Prop}

/-- a turn's end -/
def TEnd (h₀ : Heap) (L : Addr) (J : (Str → Option Value) → List (Addr × Obj) → Prop) (mt : List (Addr × Obj)) (fx : List (Addr × Obj)) (s₁ : Shared) (Q : Flow → Shared → Prop) (f : Flow) (s' : Shared) : Prop :=
  match f with
  | .ret v => Q (.ret v) s'
  | .brk => Q .next s'
  | _ => ∃ h' tk m' mt' news', s' = { s₁ with heap := h', toks := tk } ∧ Fr h₀ L h' m' ∧ News h₀ L h' news' ∧ (∀ p ∈ mt' ++ fx, p ∈ news') ∧ mt'.map (·.1) = mt.map (·.1) ∧ J m' mt'

theorem TEnd.next {L : Addr} {J : (Str → Option Value) → List (Addr × Obj) → Prop} {mt fx mt' news' : List (Addr × Obj)} {s₁ : Shared} {m' : Str → Option Value} {h' : Heap} {tk : Nat} {f : Flow} (hf : f = .next ∨ f = .cont)
    (F : Fr h₀ L h' m') (N : News h₀ L h' news') (hn : ∀ p ∈ mt' ++ fx, p ∈ news') (ha : mt'.map (·.1) = mt.map (·.1)) (hj : J m' mt') : TEnd h₀ L J mt fx s₁ Q f { s₁ with heap := h', toks := tk } := by
  rcases hf with rfl | rfl <;> exact ⟨h', tk, m', mt', news', rfl, F, N, hn, ha, hj⟩

theorem for_go {n : Nat} {P : Nat → Value → Heap → Prop} {src : List Addr} {it : Value} {s₂ : Shared} {m₀ : Str → Option Value} {mt fx : List (Addr × Obj)} (J : Nat → (Str → Option Value) → List (Addr × Obj) → Prop)
    {hb : Heap} (G : GoIt prog w A target hb s n P src it s₂) (F : Fr h₀ env.locals hb m₀) (N : News h₀ env.locals hb (mt ++ fx)) (hsrc : ∀ b ∈ src, b ≠ env.locals ∧ ∀ p ∈ mt, p.1 ≠ b) (h0 : J 0 m₀ mt)
    (turn : ∀ i v m₁ mt₁ h tk own, i < n → P i v h → mt₁.map (·.1) = mt.map (·.1) → OwnOff own (mt.map (·.1)) → J i m₁ mt₁ → Fr h₀ env.locals h m₁ → News h₀ env.locals h (mt₁ ++ (fx ++ own)) →
      wpAny (model prog w) A (assign target env v) (fun _ s₃ => wpAny (model prog w) A (execs body env) (TEnd h₀ env.locals (J (i + 1)) mt (fx ++ own) { s with heap := h, toks := tk } Q) E s₃) E { s with heap := h, toks := tk })
    (done : ∀ m₁ mt₁ h tk, J n m₁ mt₁ → Fr h₀ env.locals h m₁ → News h₀ env.locals h (mt₁ ++ fx) → Q .next { s with heap := h, toks := tk }) :
    TurnsAt prog w A h₀ env target body Q E it s₂ := by
  obtain ⟨I, fp, wr, Md, St, h', rfl, rfl, W, st, hk, _, hwr, hfp, hfs, _⟩ := G
  have hL : (hb.get? env.locals).isSome = true := by obtain ⟨o, es, ep, ho, _⟩ := F.ns; rw [ho]; rfl
  have hLf : env.locals ∉ fp := fun hm => by
    rcases hfs _ hm with e | e
    · rw [e] at hL; cases hL
    · exact (hsrc _ e).1 rfl
  have hmf : ∀ p ∈ mt, p.1 ∉ fp := fun p hp hm => by
    rcases hfs _ hm with e | e
    · rw [(N p (List.mem_append_left _ hp)).1] at e; cases e
    · exact (hsrc _ e).2 p hp rfl
  have hnw : ∀ p ∈ mt ++ fx, p.1 ∉ wr := fun p hp hm => by
    have := hwr _ hm
    rw [(N p hp).1] at this; cases this
  have hwr0 : ∀ b ∈ wr, h₀.get? b = none := fun b hb => Kp.none F.keep (hwr b hb)
  let J' : Nat → (Str → Option Value) → List (Addr × Obj) → Prop := fun i m₁ news₁ => ∃ mt₁, news₁ = mt₁ ++ fx ∧ mt₁.map (·.1) = mt.map (·.1) ∧ J i m₁ mt₁
  refine ⟨I, fp, wr, n, P, Md, St, m₀, mt ++ fx, J', rfl, W, hLf, hwr0, hnw, st, F.keeps hk, N.grown hk, ⟨mt, rfl, rfl, h0⟩, ?_, ?_⟩
  · rintro i v m₁ news₁ h₁ tk₁ own hi hP ⟨mt₁, rfl, ha, hJ⟩ hoff hown hget hall hst₁ F₁ N₁
    have hsep : OwnOff own (mt.map (·.1)) := by
      intro p hp b hb e
      obtain ⟨q, hq, rfl⟩ := List.mem_map.mp hb
      exact hmf q hq (e ▸ hown p hp)
    refine wpAny_mono (turn i v m₁ mt₁ h₁ tk₁ own hi hP ha hsep hJ F₁ ?_) (fun _ s₃ h₃ => wpAny_mono h₃ (fun f s₄ p => ?_) fun _ _ e => e) fun _ _ e => e
    · intro p hp
      refine N₁ p ?_
      rcases List.mem_append.mp hp with hp | hp
      · exact List.mem_append_right _ (List.mem_append_left _ hp)
      · rcases List.mem_append.mp hp with hp | hp
        · exact List.mem_append_right _ (List.mem_append_right _ hp)
        · exact List.mem_append_left _ hp
    · have fin : (∃ h' tk m' mt' news', s₄ = { { s with heap := h₁, toks := tk₁ } with heap := h', toks := tk } ∧ Fr h₀ env.locals h' m' ∧ News h₀ env.locals h' news' ∧ (∀ p ∈ mt' ++ (fx ++ own), p ∈ news') ∧ mt'.map (·.1) = mt.map (·.1) ∧ J (i + 1) m' mt') →
          LoopStepU h₀ env.locals wr own (J' (i + 1)) { s with heap := h₁, toks := tk₁ } .next s₄ := by
        rintro ⟨h', tk, m', mt', news', e, F', N', hn, ha', hj⟩
        refine ⟨rfl, h', tk, m', mt' ++ fx, e, F', fun p hp => N' p (hn p ?_), fun p hp hq => ?_, mt', rfl, ha', hj⟩
        · rcases List.mem_append.mp hp with hp | hp
          · exact List.mem_append_right _ (List.mem_append_right _ hp)
          · rcases List.mem_append.mp hp with hp | hp
            · exact List.mem_append_left _ hp
            · exact List.mem_append_right _ (List.mem_append_left _ hp)
        · rcases List.mem_append.mp hp with hp | hp
          · have h1 : p.1 ∈ mt'.map (·.1) := List.mem_map.mpr ⟨p, hp, rfl⟩
            rw [ha'] at h1
            obtain ⟨q, hq1, hq2⟩ := List.mem_map.mp h1
            exact hnw q (List.mem_append_left _ hq1) (by rw [hq2]; exact hq)
          · exact hnw p (List.mem_append_right _ hp) hq
      cases f with
      | ret v => exact .ret p
      | brk => exact .brk p
      | next => exact .next (fin p)
      | cont => exact .cont (fin p)
  · rintro h' tk m' news' F' N' _ ⟨mt₁, rfl, _, hJ⟩
    exact done m' mt₁ h' tk hJ F' N'
end
end Mine
end
section
open PySem PySem.W PyProof.Rows PyProof.V PySem.Spec PySem.Calls
set_option Elab.async false
set_option maxRecDepth 100000
namespace Mine
open LCg in
abbrev lstO (ys : List Value) : Obj := LCg.lst ys

section
variable {prog : Program} {w : World} {A : Around} {E : Value → Shared → Prop} {s : Shared} {env : Env}

abbrev tests (ifs : List Expr) (env : Env) : Sem Bool := forIn ifs true fun c r => if r = true then do let ok ← isTrue c env (eval c env); pure (ForInStep.yield ok) else pure (ForInStep.yield r)

/-- what one item runs through: the owned tuple, the target, the tests, the element -/
abbrev ItemRun (prog : Program) (w : World) (A : Around) (env : Env) (target elt : Expr) (ifs : List Expr) (it acc : Value) (Er : Value → Shared → Prop) (again : Shared → Prop) (v : Value) (z : Shared) : Prop :=
  wpAny (model prog w) A (letOwnedTupleGo target it v) (fun _ z₁ => wpAny (model prog w) A (assign target env v) (fun _ z₂ => wpAny (model prog w) A (tests ifs env) (fun ok z₃ =>
    if ok = true then wpAny (model prog w) A (eval elt env) (fun x z₄ => wpAny (model prog w) A (call (.builtin "list.append") [acc, x]) (fun _ z₅ => again z₅) Er z₄) Er z₃ else again z₃) Er z₂) Er z₁) Er z

theorem compLoop_gen {elt target iter : Expr} {ifs : List Expr} {scope : Scope} {pos : Pos} {it acc : Value} {env : Env} {R : Result → Shared → Prop} (I : Nat → Shared → Prop)
    (turn : ∀ k z, I k z → wpAny (model prog w) A (pyNext it) (fun r z₁ => match r with
      | none => R (.ok .next) z₁
      | some v => ItemRun prog w A env target elt ifs it acc (notedBy (model prog w) A env fun e s' => R (.error e) s') (fun y => ∃ m, m < k ∧ I m y) v z₁) (notedBy (model prog w) A env fun e s' => R (.error e) s') z)
    (k : Nat) (h : I k s) : codeAny (model prog w) A (.compLoop (.ListComp elt [⟨target, iter, ifs, 0⟩] scope pos) 0 it acc env) R s := by
  have push {α β : Type} {a : Sem α} {b : α → Sem β} {P : α → Shared → Prop} {Q : β → Shared → Prop} {Er : Value → Shared → Prop} {z : Shared} (p : wpAny (model prog w) A a P Er z) (q : ∀ x y, P x y → wpAny (model prog w) A (b x) Q Er y) : wpAny (model prog w) A (a >>= b) Q Er z :=
    wpAny_bind (wpAny_mono p (fun x y g => q x y g) fun _ _ g => g)
  refine codeAny_loop rfl I (fun k z hz => ?_) k h
  have noted := @wpAny_noted _ (model prog w) A (fun e y => R (.error e) y) z env (compTurn (.ListComp elt [⟨target, iter, ifs, 0⟩] scope pos) 0 it acc env)
  refine noted ?_
  rw [compTurn_list]
  refine wpAny_bind (wpAny_standAt (push (turn k z hz) ?_))
  rintro (_ | v) z₁ g
  · exact wpAny_pure g
  refine push g fun _ z₂ g => push g fun _ z₃ g => push g fun ok z₄ g => ?_
  cases ok
  · exact wpAny_pure ⟨rfl, g⟩
  · exact wpAny_bind (push g fun x z₅ g => push g fun _ z₆ g => wpAny_pure (wpAny_pure ⟨rfl, g⟩))

/-- the end of an element -/
def CEnd (hb : Heap) (C : Addr) (own : List (Addr × Obj)) (s₁ s' : Shared) : Prop :=
  ∃ h' tk m' news', s' = { s₁ with heap := h', toks := tk } ∧ Fr hb C h' m' ∧ News hb C h' news' ∧ ∀ p ∈ own, p ∈ news'

/-- the end of an element, and what holds then -/
def CE (hb : Heap) (C : Addr) (own : List (Addr × Obj)) (s₁ : Shared) (J : Prop) (s' : Shared) : Prop := CEnd hb C own s₁ s' ∧ J
theorem CE.fin {hb : Heap} {C : Addr} {own : List (Addr × Obj)} {s₁ : Shared} {J : Prop} {h' : Heap} {tk : Nat} {m' : Str → Option Value} (F : Fr hb C h' m') (N : News hb C h' own) (j : J) : CE hb C own s₁ J { s₁ with heap := h', toks := tk } :=
  ⟨⟨h', tk, m', own, rfl, F, N, fun _ hp => hp⟩, j⟩

/-- one element of a comprehension -/
def CBody (prog : Program) (w : World) (A : Around) (env : Env) (target elt : Expr) (ifs : List Expr) (scope : Scope) (cl : List (Str × Addr)) (hb : Heap) (s₁ : Shared) (n : Nat) (P : Nat → Value → Heap → Prop) (J : Nat → List Value → Prop) : Prop :=
  ∀ i v C m₁ h tk own ys (E' : Value → Shared → Prop), i < n → P i v h → J i ys → Fr hb C h m₁ → News hb C h own →
    wpAny (model prog w) A (assign target (compEnvC scope cl C env) v) (fun _ s₃ =>
      wpAny (model prog w) A (tests ifs (compEnvC scope cl C env)) (fun ok s₄ =>
        if ok = true then wpAny (model prog w) A (eval elt (compEnvC scope cl C env)) (fun y s₅ => CE hb C own { s₁ with heap := h, toks := tk } (J (i + 1) (ys ++ [y])) s₅) E' s₄
        else CE hb C own { s₁ with heap := h, toks := tk } (J (i + 1) ys) s₄) E' s₃) E' { s₁ with heap := h, toks := tk }

/-- what is behind the source's iterator -/
def CompAt (prog : Program) (w : World) (A : Around) (env : Env) (target elt : Expr) (ifs : List Expr) (scope : Scope) (cl : List (Str × Addr)) (Q : Value → Shared → Prop) (s₁ : Shared) (it : Value) (s₂ : Shared) : Prop :=
  ∃ hb n P src J, GoIt prog w A target hb s₁ n P src it s₂ ∧ n ≤ sizeLine ∧ (∀ i ys, J i ys → ys.length ≤ i) ∧ J 0 [] ∧ CBody prog w A env target elt ifs scope cl hb s₁ n P J ∧
    (∀ D ys h tk, J n ys → hb.get? D = none → h.get? D = some (lstO ys) → Kp hb h → Q (.ref D) { s₁ with heap := h, toks := tk })

theorem comp_go {elt target iter : Expr} {ifs : List Expr} {scope : Scope} {cl : List (Str × Addr)} {pos : Pos} {Q : Value → Shared → Prop}
    (hclos : closureFor scope env = pure cl) (hcell : ∀ y ∈ scope.names, y.2 ≠ .cell) (hkind : scope.kind = .function)
    (hnames : ∀ y ∈ scope.names, y.2 = .local → scope.names.lookup y.1 = some .local)
    (h : wpAny (model prog w) A (eval iter env) (fun xv s₁ => wpAny (model prog w) A (pyIter xv) (CompAt prog w A env target elt ifs scope cl Q s₁) E s₁) E s)
    (hs : ∀ x, foldedSetIterable iter env x = pure x := by intro _; rfl) :
    wpAny (model prog w) A (eval (.ListComp elt [⟨target, iter, ifs, 0⟩] scope pos) env) Q E s := by
  rw [eval_ListComp]
  refine wpAny_comprehension_free (use := none) rfl hs hclos hkind hnames (wpAny_mono h (fun xv s₁ h₁ => wpAny_mono h₁ (fun it s₂ h₂ => ?_) fun _ _ e => e) fun _ _ e => e)
  obtain ⟨hb, n, P, src, J, G, hsz, hJl, hJ0, body, hQ⟩ := h₂
  obtain ⟨I, fp, wr, Md, St, h', rfl, rfl, W, st, hk, hsle, hwr, hfp, hfs, hself⟩ := G
  refine wpAny_newObj_type (wpAny_newFunctionEnv hcell (by intro y hy; simp at hy) (fun h₁ hns₁ hsb₁ => ?_) hkind)
  dsimp only at hns₁ hsb₁ ⊢
  generalize hH2 : h'.push { cls := .type "list", dict := none, data := .seq ([] : List Value).toArray } = H2 at hns₁ hsb₁ ⊢
  have hC : H2.objs.size = h'.objs.size + 1 := by rw [← hH2, Heap.size_push]
  have hDC : h'.objs.size ≠ H2.objs.size := by rw [hC]; exact Nat.ne_of_lt (Nat.lt_succ_self _)
  have below : ∀ b, b < h'.objs.size → b ≠ H2.objs.size ∧ b ≠ h'.objs.size := fun b hm => ⟨by rw [hC]; exact Nat.ne_of_lt (Nat.lt_succ_of_lt hm), Nat.ne_of_lt hm⟩
  have hDf : h'.objs.size ∉ fp := fun hm => Nat.lt_irrefl _ (hfp _ hm)
  have hCf : H2.objs.size ∉ fp := fun hm => by have := hfp _ hm; rw [hC] at this; exact Nat.lt_irrefl _ (Nat.lt_of_succ_lt this)
  have old : ∀ b o, h'.get? b = some o → h₁.get? b = some o := fun b o e => hsb₁.extBut b o (below b (Heap.lt_size e)).1 (Heap.get?_push_of_some _ (hH2 ▸ Heap.get?_push_of_some _ e))
  have hacc : h₁.get? h'.objs.size = some (lstO []) := hsb₁.extBut _ _ hDC (Heap.get?_push_of_some _ (hH2 ▸ Heap.get?_push_size _ rfl))
  have hst₁ : St 0 h₁ := W.frame _ _ _ st fun b _ o e => old b o e
  have up : Kp hb h₁ := fun b o e => old b o (hk b o e)
  have hD0 : hb.get? h'.objs.size = none := none_of_size hsle
  have hC0 : hb.get? H2.objs.size = none := none_of_size (by rw [hC]; exact Nat.le_succ_of_le hsle)
  have hCle : hb.objs.size ≤ H2.objs.size := by rw [hC]; exact Nat.le_succ_of_le hsle
  have oldw : ∀ b o, hb.get? b = some o → b ∉ wr := fun b o e hm => by rw [hwr b hm] at e; cases e
  have hCw : H2.objs.size ∉ wr := fun h => hCf (W.sub _ h)
  have hDw : h'.objs.size ∉ wr := fun h => hDf (W.sub _ h)
  have loop : ∀ s₃ : Shared, s₃ = { s₁ with heap := h₁, toks := s₁.toks + ([] : List (Str × Value)).length } →
      codeAny (model prog w) A (.compLoop (.ListComp elt [⟨target, iter, ifs, 0⟩] scope pos) 0 (.ref I) (.ref h'.objs.size) (compEnvC scope cl H2.objs.size env))
        (compPost (model prog w) A E none Q (.ref h'.objs.size) H2.objs.size) s₃ := by
    rintro s₃ rfl
    refine compLoop_gen
      (fun k s' => ∃ g tk i ys m', s' = { s₁ with heap := g, toks := tk } ∧ i ≤ n ∧ k = n + 1 - i ∧ St i g ∧ Kp hb g ∧ g.Ns H2.objs.size m' ∧ g.get? h'.objs.size = some (lstO ys) ∧ J i ys) ?_ (n + 1)
      ⟨h₁, _, 0, [], _, rfl, Nat.zero_le _, rfl, hst₁, up, hns₁, hacc, hJ0⟩
    rintro k s' ⟨g, tk, i, ys, m', rfl, hi, rfl, hst', hkg, hn', hD', hJ⟩
    by_cases hlt : i < n
    · refine W.item i _ _ _ hlt hst' fun v h₂ tk₂ hMd hk₂ => ?_
      refine W.go i v _ _ _ hMd fun h₃ hP hst₃ hk₃ => ?_
      have hk23 : ∀ b o, b ∉ wr → g.get? b = some o → h₃.get? b = some o := fun b o hb e => hk₃ b o hb (hk₂ b o hb e)
      have F₃ : Fr hb H2.objs.size h₃ m' := ⟨hn'.at' fun o e => hk23 _ o hCw e, fun b o e => hk23 b o (oldw b o e) (hkg b o e), hCle⟩
      have hD₃ : h₃.get? h'.objs.size = some (lstO ys) := hk23 _ _ hDw hD'
      have Nown : News hb H2.objs.size h₃ ((h'.objs.size, lstO ys) :: PyProof.Rows.ownOf hb fp h₃) := fun p hp => by
        rcases List.mem_cons.mp hp with rfl | hp
        · exact ⟨hD₃, hDC, hD0⟩
        · exact news_ownOf hCf p hp
      have after : ∀ s₅, CEnd hb H2.objs.size ((h'.objs.size, lstO ys) :: PyProof.Rows.ownOf hb fp h₃) { s₁ with heap := h₃, toks := tk₂ } s₅ →
          ∃ h₅ tk₅ m₅, s₅ = { s₁ with heap := h₅, toks := tk₅ } ∧ St (i + 1) h₅ ∧ Kp hb h₅ ∧ h₅.Ns H2.objs.size m₅ ∧ h₅.get? h'.objs.size = some (lstO ys) := by
        rintro s₅ ⟨h₅, tk₅, m₅, news', rfl, F₅, N₅, hn₅⟩
        refine ⟨h₅, tk₅, m₅, rfl, W.frame _ _ _ hst₃ fun b hm o e => ?_, F₅.keep, F₅.ns, (N₅ _ (hn₅ _ (.head _))).1⟩
        cases hn : hb.get? b with
        | some o₀ =>
          have : o₀ = o := by have q := F₃.keep b o₀ hn; rw [e] at q; exact (Option.some.inj q).symm
          exact this ▸ F₅.keep b o₀ hn
        | none => exact (N₅ _ (hn₅ _ (.tail _ (mem_ownOf hm hn e)))).1
      refine wpAny_mono (body i v H2.objs.size m' h₃ tk₂ _ ys _ hlt hP hJ F₃ Nown) (fun _ s₄ h₄ => wpAny_mono h₄ (fun ok s₅ h₅ => ?_) fun _ _ e => e) fun _ _ e => e
      cases ok with
      | false =>
        obtain ⟨c, hJ'⟩ := h₅
        obtain ⟨h₅, tk₅, m₅, rfl, st₅, k₅, n₅, d₅⟩ := after _ c
        exact ⟨n + 1 - (i + 1), by omega, h₅, tk₅, i + 1, ys, m₅, rfl, hlt, rfl, st₅, k₅, n₅, d₅, hJ'⟩
      | true =>
        refine wpAny_mono h₅ (fun y s₆ h₆ => ?_) fun _ _ e => e
        obtain ⟨c, hJ'⟩ := h₆
        obtain ⟨h₆, tk₆, m₆, rfl, st₆, k₆, n₆, d₆⟩ := after _ c
        refine append_at (hsz := by show ys.toArray.size ≤ sizeLine; rw [List.size_toArray]; exact Nat.le_trans (hJl i ys hJ) (Nat.le_trans hi hsz)) d₆ fun h₇ hs₇ d₇ => ?_
        refine ⟨n + 1 - (i + 1), by omega, h₇, tk₆, i + 1, ys ++ [y], m₆, rfl, hlt, rfl, W.frame _ _ _ st₆ fun b hm o e => hs₇.extBut b o (fun q => hDf (q ▸ hm)) e, fun b o e => hs₇.extBut b o (fun q => by rw [q, hD0] at e; cases e) (k₆ b o e), n₆.sameBut hs₇ (Ne.symm hDC), d₇.trans (congrArg some (LCg.lst_snoc ys y)), hJ'⟩
    · obtain rfl : i = n := Nat.le_antisymm hi (Nat.not_lt.mp hlt)
      refine W.done _ _ _ hst' fun h₂ tk₂ hk₂ => ?_
      refine ⟨m', hn'.at' fun o e => hk₂ _ o hCw e, fun h₄ hs₄ => ?_⟩
      exact hQ _ ys h₄ tk₂ hJ hD0 (hs₄.extBut _ _ hDC (hk₂ _ _ hDw hD')) fun b o e => hs₄.extBut b o (fun q => by rw [q, hC0] at e; cases e) (hk₂ b o (oldw b o e) (hkg b o e))
  exact codeAny_compStart_list (loop _ rfl) (hself _ _ _ hst₁ (loop _ rfl))
end
end Mine
end
section
open PySem PySem.W PyProof.Rows PyProof.V PySem.Spec PySem.Calls
set_option Elab.async false
set_option maxRecDepth 100000
namespace Mine
abbrev Ar (dp un : Nat) (fr : Option (List Env)) (gd : Option (List Code)) : Around := { handled := none, depth := dp, frames := fr, guards := gd, units := un }

/-- the frame's names at the start -/
abbrev bm (binds : List (Str × Value)) : Str → Option Value := binds.foldl (fun f p y => if y = p.1 then some p.2 else f y) fun _ => none
theorem bm_eq : ∀ (binds : List (Str × Value)) (f : Str → Option Value) (y : Str), (binds.reverse.lookup y).or (f y) = binds.foldl (fun f p y => if y = p.1 then some p.2 else f y) f y
  | [], f, y => by simp
  | p :: r, f, y => by
    rw [List.foldl_cons, ← bm_eq r, List.reverse_cons, List.lookup_append]
    cases h : r.reverse.lookup y with
    | some v => simp
    | none =>
      obtain ⟨k, v⟩ := p
      simp only [Option.none_or, List.lookup_cons, List.lookup_nil]
      by_cases e : y = k
      · simp [e]
      · have : (y == k) = false := by simpa using e
        simp [e, this]
theorem bm_fun (binds : List (Str × Value)) : (fun y => binds.reverse.lookup y) = bm binds := by
  funext y
  have := bm_eq binds (fun _ => none) y
  simpa using this

section
variable {prog : Program} {w : World} {A : Around} {s : Shared} {K : Frag} {p : Program} {loose : List Str} {mean : ExcName → Option Value} {mg mb : Str → Option Value}
  {R : Result → Shared → Prop} {name qual : Str} {params : Arguments} {body : List Stmt} {scope : Scope} {dV kV doc pm cdv ct oc : Value} {an od : Option Addr} {osl : Array (Option Value)} {f : Addr} {args : Args}

theorem enter0 (binds : List (Str × Value)) (X : K.In s.heap) (T : Top p loose mean mg mb s.heap)
    (ho : K.lookup f = some ⟨oc, od, .func (fnOf name qual params body scope dV kV doc pm an cdv ct), osl⟩) (hcd : codeIn K cdv qual = true) (hroom : A.depth < recursionLimit)
    (hbind : BindsTo s (fnOf name qual params body scope dV kV doc pm an cdv ct) args binds) (hloc : ∀ y ∈ binds, scope.names.lookup y.1 = some .local)
    (h : ∀ h₁, Fr s.heap s.heap.objs.size h₁ (bm binds) → News s.heap s.heap.objs.size h₁ [] →
      wpAny (model prog w) (A.deeper (envOf qual scope s.heap.objs.size f cdv)) (execs body (envOf qual scope s.heap.objs.size f cdv))
        (fun fl s' => R (.ok (.ret (match fl with | .ret v => v | _ => .none))) s')
        (fun e s' => wpAny (model prog w) (A.deeper (envOf qual scope s.heap.objs.size f cdv)) (leaving (envOf qual scope s.heap.objs.size f cdv) e) (fun _ s'' => R (.error e) s'') (fun e' s'' => R (.error e') s'') s')
        { s with heap := h₁, toks := s.toks + binds.length })
    (hco : scope.isCoroutine = false) (hgen : scope.isGenerator = false) (hk : scope.kind = .function)
    (hcell : ∀ x ∈ scope.names, x.2 ≠ .cell) : codeAny (model prog w) A (.call (.ref f) args) R s := by
  refine codeAny_call_def (fd := fnOf name qual params body scope dV kV doc pm an cdv ct) (body := body) (binds := binds) hroom (X _ _ ho) rfl T.nolimit (codeRec_of X hcd) rfl hbind hcell hloc (fun h₁ hns hk₁ => ?_) hco hgen hk
  exact h h₁ ⟨bm_fun binds ▸ hns, hk₁, Nat.le_refl _⟩ News.nil

theorem enterC {binds : List (Str × Value)} (X : K.In s.heap) (T : Top p loose mean mg mb s.heap)
    (ho : K.lookup f = some ⟨oc, od, .func (fnOf name qual params body scope dV kV doc pm an cdv ct), osl⟩) (hcd : codeIn K cdv qual = true) (hroom : A.depth < recursionLimit)
    (hbind : BindsTo s (fnOf name qual params body scope dV kV doc pm an cdv ct) args binds)
    (hkind : (binds.all fun y => scope.names.lookup y.1 == some .local || scope.names.lookup y.1 == some .cell) = true)
    (hnd : ((cellsFrom 0 scope.names []).map (·.1)).Nodup)
    (h : ∀ h₁ tk cells, Fr s.heap s.heap.objs.size h₁ (bindL (envOfC qual scope s.heap.objs.size f cdv).kindOf binds fun _ => none) → News s.heap s.heap.objs.size h₁ cells →
      CellsAre (bindC (envOfC qual scope s.heap.objs.size f cdv).kindOf binds fun _ => none) (cellsFrom (s.heap.objs.size + 1) scope.names []) cells →
      wpAny (model prog w) (A.deeper (envOfC qual scope s.heap.objs.size f cdv)) (execs body (envOfC qual scope s.heap.objs.size f cdv))
        (fun fl s' => R (.ok (.ret (match fl with | .ret v => v | _ => .none))) s')
        (fun e s' => wpAny (model prog w) (A.deeper (envOfC qual scope s.heap.objs.size f cdv)) (leaving (envOfC qual scope s.heap.objs.size f cdv) e) (fun _ s'' => R (.error e) s'') (fun e' s'' => R (.error e') s'') s')
        { s with heap := h₁, toks := tk })
    (hco : scope.isCoroutine = false) (hgen : scope.isGenerator = false) (hk : scope.kind = .function) : codeAny (model prog w) A (.call (.ref f) args) R s := by
  refine codeAny_call_function hroom (X _ _ ho) rfl hco hgen rfl (codeRec_of X hcd) (hbind _ _ _ _ ?_)
  refine wpAny_newFunctionEnv_cells hk (kindsX hkind _) fun env' he s' x => ?_
  subst he
  refine ⟨T.nolimit.keeps x.toInCall.keep, codeAny_func ?_⟩
  obtain ⟨h₁, tk, rfl, _⟩ := x.done
  have hk₁ := x.toInCall.keep
  obtain ⟨cells, NC, Y⟩ := Cl.news (h₀ := s.heap) (Nat.le_refl _) fun n c hm => ⟨x.cell n c (lookup_of_mem_nodup (cellsFrom_names scope.names 0 (s.heap.objs.size + 1) [] [] rfl ▸ hnd) hm), x.above n c hm⟩
  exact h h₁ tk cells ⟨x.toInCall.ns, hk₁, Nat.le_refl _⟩ NC Y
end

/-- a value and what stands behind it -/
abbrev Back (s : Shared) (V : Value → Heap → Prop) (Q : Value → Shared → Prop) : Prop :=
  ∀ v h' tk, V v h' → Kp s.heap h' → Q v { s with heap := h', toks := tk }

/-- a def's contract: it comes back with V -/
def Con (f : Addr) (vs : List Value) (k : Nat) (Pre : Heap → Prop) (V : Heap → Value → Heap → Prop) : Prop :=
  ∀ (w : World) (mean : ExcName → Option Value) (mg mb : Str → Option Value) (dp un : Nat) (fr : Option (List Env)) (gd : Option (List Code)) (s : Shared) (Q E : Value → Shared → Prop),
   (Mine.hd.heap_39 w.params).In s.heap → Top Mine.hd.view_39 (looseW Mine.hd.view_39 [Str.ofString "PostError"]) mean mg mb s.heap → Pre s.heap →
   dp + 10 * k < 900 → un + 100 * k < 9000 →
   (∀ v h' tk, V s.heap v h' → Kp s.heap h' → Q v { s with heap := h', toks := tk }) →
   wpAny (model Challenge.rw_no0350_01.row.prog w) (Ar dp un fr gd) (call (.ref f) vs) Q E s

/-- a StoreFault that is made and not yet raised -/
def Made (g h' : Heap) (e : Addr) : Prop := Kp g h' ∧ g.get? e = none ∧ ∃ oe vs a0, h'.get? e = some oe ∧ oe.cls = .ref 52 ∧ oe.data = .fields vs ∧ vs[0]? = some a0 ∧ vs[1]? = some .none
/-- a StoreFault in flight over the frames l -/
def Flown (B : Heap) (l : List Env) (g : Heap) (e : Addr) (h' : Heap) : Prop := (∃ a0, Heap.FlyingW B l e (.ref 52) a0 h') ∧ g.UpToSlots h'

/-- a def's contract: it comes back with V, or (if Rs) it raises StoreFault -/
def ConX (f : Addr) (vs : List Value) (k : Nat) (Pre : Heap → Prop) (V : Heap → Value → Heap → Prop) (Rs : Prop) : Prop :=
  ∀ (w : World) (mean : ExcName → Option Value) (mg mb : Str → Option Value) (dp un : Nat) (fr : Option (List Env)) (gd : Option (List Code)) (B : Heap) (l : List Env) (s : Shared) (Q E : Value → Shared → Prop),
   (Mine.hd.heap_39 w.params).In s.heap → Top Mine.hd.view_39 (looseW Mine.hd.view_39 [Str.ofString "PostError"]) mean mg mb s.heap → Pre s.heap → Below (Ar dp un fr gd) B l s.heap →
   dp + 10 * k < 900 → un + 100 * k < 9000 →
   (∀ v h' tk, V s.heap v h' → Kp s.heap h' → Q v { s with heap := h', toks := tk }) →
   (Rs → ∀ e h' tk, Flown B l s.heap e h' → E (.ref e) { s with heap := h', toks := tk }) →
   wpAny (model Challenge.rw_no0350_01.row.prog w) (Ar dp un fr gd) (call (.ref f) vs) Q E s

section
variable {M : Model} {A : Around} {E : Value → Shared → Prop} {s' : Shared} {B g h : Heap} {l : List Env} {L e : Addr} {m : Str → Option Value} {env : Env} {Q : Unit → Shared → Prop}
theorem leave_made (K : Below A B l g) (F : Fr g L h m) (hf : env.frame = some L) (hk : env.scope.kind = .function) (hx : Made h s'.heap e)
    (hQ : ∀ h', Flown B l g e h' → Q () { s' with heap := h' }) : wpAny M (A.deeper env) (leaving env (.ref e)) Q E s' := by
  have K' := pushX K F hf hk
  obtain ⟨hkp, hnew, oe, vs, a0, he, hcls, hd, h0, h1⟩ := hx
  refine wpAny_leaving_firstW (a0 := a0) K'.stack (K'.frames.of_keeps fun b o e _ => ⟨o, hkp b o e, rfl⟩) hf he (fun b o q => hkp b o (K'.stays b o q)) (Kp.none K'.stays hnew) hd h1 h0 fun h' hL => ?_
  obtain ⟨k1, ⟨_, _, k2⟩, k3, k4⟩ := hL
  rw [hcls] at k3
  exact hQ h' ⟨⟨a0, k1, Kp.none K'.stays hnew, k2, k3⟩, (Heap.UpToSlots.of_keeps F.keep).trans ((Heap.UpToSlots.of_keeps hkp).trans k4)⟩

theorem leave_flown (K : Below A B l g) (F : Fr g L h m) (hf : env.frame = some L) (hx : Flown B (env :: l) h e s'.heap)
    (hQ : ∀ h', Flown B l g e h' → Q () { s' with heap := h' }) : wpAny M (A.deeper env) (leaving env (.ref e)) Q E s' := by
  obtain ⟨⟨a0, fl⟩, up⟩ := hx
  exact wpAny_leaves_onW (Around.frames_deeper K.stack) hf fl fun h' x1 x2 => hQ h' ⟨⟨a0, x1⟩, (Heap.UpToSlots.of_keeps F.keep).trans (up.trans x2)⟩
end

theorem news_new {h₀ g h' : Heap} {L D : Addr} {o : Obj} {m : Str → Option Value} {news : List (Addr × Obj)} (F : Fr h₀ L g m) (N : News h₀ L g news) (hk : Kp g h') (hD : g.get? D = none) (hg : h'.get? D = some o) : News h₀ L h' ((D, o) :: news) := by
  intro p hp
  rcases List.mem_cons.mp hp with rfl | hp
  · refine ⟨hg, fun e => ?_, Kp.none F.keep hD⟩
    obtain ⟨oL, _, _, hL, _⟩ := F.ns
    subst e
    rw [hD] at hL; cases hL
  · exact ⟨hk _ _ (N p hp).1, (N p hp).2⟩
end Mine
end
section
open PySem PySem.W PyProof.Rows PyProof.V PySem.Spec PySem.Calls
set_option Elab.async false
set_option maxRecDepth 100000
namespace Mine

theorem upd_upd {a : Str} {v u : Option Value} {f : Str → Option Value} : (fun y => if y = a then v else if y = a then u else f y) = fun y => if y = a then v else f y := by
  funext y
  by_cases e : y = a
  · rw [if_pos e, if_pos e]
  · rw [if_neg e, if_neg e, if_neg e]

/-- the five names -/
abbrev sysL : List Str := [{ cps := #[92, 83, 101, 101, 110] }, { cps := #[92, 65, 110, 115, 119, 101, 114, 101, 100] }, { cps := #[92, 70, 108, 97, 103, 103, 101, 100] }, { cps := #[92, 68, 101, 108, 101, 116, 101, 100] }, { cps := #[92, 68, 114, 97, 102, 116] }]
abbrev barL : List Nat := [40, 41, 123, 32, 37, 42, 34, 92, 93]
def okCp (c : Nat) : Bool := decide (32 < c) && decide (c < 127) && !barL.contains c
def isKw (x : Str) : Bool := decide (1 ≤ x.cps.size) && decide (x.cps.size ≤ 60) && x.cps.toList.all okCp

theorem barred_cps : (Str.ofString "(){ %*\"\\]").cps.toList = barL := by decide +kernel
theorem barred_occ (c : Nat) : (Builtin.Str.occurrences (Str.ofString "(){ %*\"\\]") { cps := #[c] } 0 (Str.ofString "(){ %*\"\\]").length 1).isEmpty = !barL.contains c := by
  have := StrLaws.found_one (Str.ofString "(){ %*\"\\]") c
  rw [barred_cps] at this
  rw [← Bool.not_not (List.isEmpty _), this]
  simp
theorem isKw_short {x : Str} (h : ¬ (1 : Int) ≤ x.length) : isKw x = false := by
  unfold isKw
  have : ¬ 1 ≤ x.cps.size := by show ¬ 1 ≤ x.length; omega
  simp [this]
theorem isKw_long {x : Str} (h : ¬ (x.length : Int) ≤ 60) : isKw x = false := by
  unfold isKw
  have : ¬ x.cps.size ≤ 60 := by show ¬ x.length ≤ 60; omega
  simp [this]
theorem isKw_true {x : Str} (h1 : (1 : Int) ≤ x.length) (h2 : (x.length : Int) ≤ 60) (h : ∀ c ∈ x.cps.toList.take x.cps.size, okCp c = true) : isKw x = true := by
  have e1 : 1 ≤ x.cps.size := by show 1 ≤ x.length; omega
  have e2 : x.cps.size ≤ 60 := by show x.length ≤ 60; omega
  have e3 : x.cps.toList.take x.cps.size = x.cps.toList := List.take_of_length_le (by simp)
  rw [e3] at h
  unfold isKw
  simp only [e1, e2, decide_true, Bool.true_and, List.all_eq_true]
  exact h
theorem isKw_bad {x : Str} {i c : Nat} (hc : x.cps[i]? = some c) (h : okCp c = false) : isKw x = false := by
  have hm : c ∈ x.cps.toList := by
    rw [List.mem_iff_getElem?]
    exact ⟨i, by simpa using hc⟩
  have : x.cps.toList.all okCp = false := by
    rw [List.all_eq_false]
    exact ⟨c, hm, by simp [h]⟩
  unfold isKw
  rw [this, Bool.and_false]
theorem okCp_yes {c : Nat} (h1 : 32 < (c : Int)) (h2 : (c : Int) < 127) (h3 : (!barL.contains c) = true) : okCp c = true := by
  unfold okCp
  have e1 : 32 < c := by omega
  have e2 : c < 127 := by omega
  rw [decide_eq_true e1, decide_eq_true e2, h3]; rfl
theorem okCp_no1 {c : Nat} (h1 : ¬ 32 < (c : Int)) : okCp c = false := by
  unfold okCp
  have e1 : ¬ 32 < c := by omega
  rw [decide_eq_false e1]; rfl
theorem okCp_no2 {c : Nat} (h1 : ¬ (c : Int) < 127) : okCp c = false := by
  unfold okCp
  have e1 : ¬ c < 127 := by omega
  rw [decide_eq_false e1, Bool.and_false]; rfl
theorem okCp_no3 {c : Nat} (h3 : (!barL.contains c) = false) : okCp c = false := by
  unfold okCp
  rw [h3, Bool.and_false]
theorem take_snoc {i : Nat} {x : Str} {c : Nat} {p : Nat → Prop} (hc : x.cps[i]? = some c) (h : ∀ d ∈ x.cps.toList.take i, p d) (hp : p c) : ∀ d ∈ x.cps.toList.take (i + 1), p d := by
  intro d hd
  rw [List.take_add_one] at hd
  rcases List.mem_append.mp hd with q | q
  · exact h d q
  · have : x.cps.toList[i]? = some c := by simpa using hc
    rw [this] at q
    have : d = c := by simpa using q
    rw [this]; exact hp

theorem sys_short : ∀ y ∈ sysL, y.length ≤ 200 := by decide +kernel
def sysOf (x : Str) : Option Str := sysL.find? fun n => decide (Txt.lower x = Txt.lower n)
def flagName (x : Str) : Option Str := match sysOf x with
  | some n => some n
  | none => if isKw x = true then some x else none
theorem sysOf_some {x : Str} {i : Nat} {y : Str} (hy : sysL[i]? = some y) (h : ∀ n ∈ sysL.take i, ¬ Txt.lower x = Txt.lower n) (e : Txt.lower x = Txt.lower y) : sysOf x = some y := by
  unfold sysOf
  have hi : i < sysL.length := (List.getElem?_eq_some_iff.mp hy).1
  rw [List.find?_eq_some_iff_append]
  refine ⟨by simpa using e, sysL.take i, sysL.drop (i + 1), ?_, fun n hn => by simpa using h n hn⟩
  have h1 := List.take_append_drop i sysL
  rw [List.drop_eq_getElem_cons hi] at h1
  have h2 : sysL[i] = y := (List.getElem?_eq_some_iff.mp hy).2
  rw [h2] at h1
  exact h1.symm
theorem sysOf_none {x : Str} (h : ∀ n ∈ sysL.take sysL.length, ¬ Txt.lower x = Txt.lower n) : sysOf x = none := by
  unfold sysOf
  rw [List.find?_eq_none]
  intro n hn
  simpa using h n (by rw [List.take_length]; exact hn)
theorem takeL_snoc {α : Type} {i : Nat} {l : List α} {c : α} {p : α → Prop} (hc : l[i]? = some c) (h : ∀ d ∈ l.take i, p d) (hp : p c) : ∀ d ∈ l.take (i + 1), p d := by
  intro d hd
  rw [List.take_add_one] at hd
  rcases List.mem_append.mp hd with q | q
  · exact h d q
  · rw [hc] at q
    have : d = c := by simpa using q
    rw [this]; exact hp
theorem flagName_sys {x n : Str} (h : sysOf x = some n) : flagName x = some n := by unfold flagName; rw [h]
theorem flagName_kw {x : Str} (h : sysOf x = none) (k : isKw x = true) : flagName x = some x := by unfold flagName; rw [h]; simp [k]
theorem flagName_no {x : Str} (h : sysOf x = none) (k : isKw x = false) : flagName x = none := by unfold flagName; rw [h]; simp [k]
end Mine
end
section
open PySem PySem.W PyProof.Rows PyProof.V PySem.Spec PySem.Calls
set_option Elab.async false
set_option maxRecDepth 100000
namespace Mine

local macro_rules | `(tactic| walk_at "exec For Name Name cons nil") => `(tactic| (k_here; (rename Fr _ _ _ _ => lF'); (with_unfolding_all refine' For_turns lF' ?_; k_whole)))

set_option maxHeartbeats 8000000 in
theorem call_isKw (x : Str) (tx : Tok) (hx : x.length ≤ 200) : Con 68 [.str x tx] 1 (fun _ => True) (fun _ v _ => v = .bool (isKw x)) := by
  w_top off
  unfold Con
  k_fill
  intro w mean mg mb dp un fr gd s Q E X T _ hd hu hret
  refine wpAny_call ?_
  k_dflt (refine' enter0 [(Str.ofString "text", .str x tx)] ?k1 ?k2 ?k6 ?k7 ?k8 ?k9 ?kB ?_ ?c2 ?c3 ?c4 ?c5; (case k1 => exact X); (case k2 => exact T); (case k6 => k_is); (case k7 => k_is); (case k8 => (show dp < 1000); omega); (case k9 => exact BindsTo.of_eq rfl); (case c5 => decide); (case kB => exact locs rfl); (case c2 => exact rfl); (case c3 => exact rfl); (case c4 => exact rfl))
  intro h₁ F N
  dsimp only [bm, List.foldl] at F ⊢
  (try k_fold)
  k_steps
  · rename Fr _ _ _ _ => F
    rename (x.length : Int) ≤ 60 => hl
    rename 1 ≤ (x.length : Int) => hs
    refine wpAny_mono (it_str rfl) (fun it s₂ G => for_go (mt := []) (fx := []) (fun i m mt => mt = [] ∧ (∃ u, m = fun y => if y = Str.ofString "sign" then u else if y = Str.ofString "text" then some (.str x tx) else none) ∧ (∀ c ∈ x.cps.toList.take i, okCp c = true)) G F N (fun b hb => nomatch hb) ⟨rfl, ⟨none, ?_⟩, by simp⟩ ?_ ?_) (fun _ _ e => e)
    · funext y
      by_cases e : y = Str.ofString "sign"
      · subst e; rfl
      · rw [if_neg e]
    · rintro i v m₁ mt₁ h tk own hi ⟨c, u, hc, rfl⟩ ha hoff ⟨rfl, ⟨u', rfl⟩, hJ⟩ F₁ N₁
      k_steps
      · refine TEnd.next (mt' := []) (.inl rfl) (by assumption) (by assumption) (fun p hp => hp) rfl ⟨rfl, ⟨_, upd_upd⟩, take_snoc hc hJ (okCp_yes (by assumption) (by assumption) ?_)⟩
        rw [← barred_occ]; assumption
      · dsimp only
        exact hret _ _ _ (congrArg Value.bool (isKw_bad hc (okCp_no3 (by rw [← barred_occ]; assumption))).symm) (Fr.keep (by assumption))
      · dsimp only
        exact hret _ _ _ (congrArg Value.bool (isKw_bad hc (okCp_no2 (by assumption))).symm) (Fr.keep (by assumption))
      · dsimp only
        exact hret _ _ _ (congrArg Value.bool (isKw_bad hc (okCp_no1 (by assumption))).symm) (Fr.keep (by assumption))
    · rintro m₁ mt₁ h tk ⟨rfl, ⟨u', rfl⟩, hJ⟩ F₁ N₁
      (try dsimp only)
      k_steps
      dsimp only
      exact hret _ _ _ (congrArg Value.bool (isKw_true hs hl hJ).symm) (Fr.keep (by assumption))
  · dsimp only
    exact hret _ _ _ (congrArg Value.bool (isKw_long (by assumption)).symm) (Fr.keep (by assumption))
  · dsimp only
    exact hret _ _ _ (congrArg Value.bool (isKw_short (by assumption)).symm) (Fr.keep (by assumption))
end Mine
end
section
open PySem PySem.W PyProof.Rows PyProof.V PySem.Spec PySem.Calls
set_option Elab.async false
set_option maxRecDepth 100000
namespace Mine

set_option maxHeartbeats 8000000 in
theorem call_sys : Con 61 [] 1 (fun _ => True) (fun g v h => ∃ D vs, v = .ref D ∧ g.get? D = none ∧ (∃ n, h.get? D = some (W.listOf (List.toArray vs) n)) ∧ StrsAre vs sysL) := by
  w_top off
  unfold Con
  k_fill
  intro w mean mg mb dp un fr gd s Q E X T _ hd hu hret
  refine wpAny_call ?_
  k_dflt (refine' enter0 [] ?k1 ?k2 ?k6 ?k7 ?k8 ?k9 ?kB ?_ ?c2 ?c3 ?c4 ?c5; (case k1 => exact X); (case k2 => exact T); (case k6 => k_is); (case k7 => k_is); (case k8 => (show dp < 1000); omega); (case k9 => exact BindsTo.of_eq rfl); (case c5 => decide); (case kB => exact locs rfl); (case c2 => exact rfl); (case c3 => exact rfl); (case c4 => exact rfl))
  intro h₁ F N
  dsimp only [bm, List.foldl] at F ⊢
  (try k_fold)
  k_steps
  rename News _ _ _ _ => N
  exact hret _ _ _ ⟨_, _, rfl, (N _ (.head _)).2.2, ⟨_, (N _ (.head _)).1⟩, by assumption⟩ (Fr.keep (by assumption))
end Mine
end
section
open PySem PySem.W PyProof.Rows PyProof.V PySem.Spec PySem.Calls
set_option Elab.async false
set_option maxRecDepth 100000
namespace Mine

section
variable {prog : Program} {w : World} {A : Around} {s : Shared} {K : Frag} {p : Program} {loose : List Str} {mean : ExcName → Option Value} {mg mb : Str → Option Value}
  {R : Result → Shared → Prop} {name qual : Str} {params : Arguments} {body : List Stmt} {scope : Scope} {dV kV doc pm cdv ct oc : Value} {an od : Option Addr} {osl : Array (Option Value)} {f : Addr} {args : Args}

/-- a call over a ledger that is not yet of the base -/
theorem enterN (news : List (Addr × Obj)) (binds : List (Str × Value)) {h0 : Heap} (k0 : Kp h0 s.heap) (hN : ∀ p ∈ news, s.heap.get? p.1 = some p.2 ∧ h0.get? p.1 = none) (X : K.In h0) (T : Top p loose mean mg mb h0)
    (ho : K.lookup f = some ⟨oc, od, .func (fnOf name qual params body scope dV kV doc pm an cdv ct), osl⟩) (hcd : codeIn K cdv qual = true) (hroom : A.depth < recursionLimit)
    (hbind : BindsTo s (fnOf name qual params body scope dV kV doc pm an cdv ct) args binds) (hloc : ∀ y ∈ binds, scope.names.lookup y.1 = some .local)
    (h : ∀ g h₁, Kp h0 g → K.In g → Top p loose mean mg mb g → Fr g s.heap.objs.size h₁ (bm binds) → News g s.heap.objs.size h₁ news →
      wpAny (model prog w) (A.deeper (envOf qual scope s.heap.objs.size f cdv)) (execs body (envOf qual scope s.heap.objs.size f cdv))
        (fun fl s' => R (.ok (.ret (match fl with | .ret v => v | _ => .none))) s')
        (fun e s' => wpAny (model prog w) (A.deeper (envOf qual scope s.heap.objs.size f cdv)) (leaving (envOf qual scope s.heap.objs.size f cdv) e) (fun _ s'' => R (.error e) s'') (fun e' s'' => R (.error e') s'') s')
        { s with heap := h₁, toks := s.toks + binds.length })
    (hco : scope.isCoroutine = false) (hgen : scope.isGenerator = false) (hk : scope.kind = .function)
    (hcell : ∀ x ∈ scope.names, x.2 ≠ .cell) : codeAny (model prog w) A (.call (.ref f) args) R s := by
  have kg : Kp h0 (hideAll s.heap (news.map (·.1))) := fun b o e => hideAll_get _ (k0 b o e) fun hm => by
    obtain ⟨q, hq, rfl⟩ := List.mem_map.mp hm
    rw [(hN q hq).2] at e; cases e
  refine codeAny_call_def (fd := fnOf name qual params body scope dV kV doc pm an cdv ct) (body := body) (binds := binds) hroom ((X.keeps k0) _ _ ho) rfl (T.keeps k0).nolimit (codeRec_of (X.keeps k0) hcd) rfl hbind hcell hloc (fun h₁ hns hk₁ => ?_) hco hgen hk
  refine h _ h₁ kg (X.keeps kg) (T.keeps kg) ⟨bm_fun binds ▸ hns, fun b o e => hk₁ b o (of_hideAll _ e), Nat.le_of_eq (hideAll_size _ _)⟩ fun q hq => ⟨hk₁ _ _ (hN q hq).1, Nat.ne_of_lt (Heap.lt_size (hN q hq).1), hideAll_none _ (List.mem_map_of_mem hq)⟩
end

abbrev excO (t : Addr) (dx : Option Addr) : Obj := { cls := .ref 52, dict := dx, data := .fields #[.ref t, .none, .none, .none, .bool false, .none] }

theorem ei_what : findIn [] (.type "Exception") "__setattr__" = some (some (.builtin "object.__setattr__")) := by decide +kernel

theorem News.keeps' {h₀ h h' : Heap} {L : Addr} {news : List (Addr × Obj)} (N : News h₀ L h news) (k : Kp h h') : News h₀ L h' news := fun q hq => ⟨k _ _ (N q hq).1, (N q hq).2⟩
section
variable {prog : Program} {w : World} {A : Around} {E : Value → Shared → Prop} {s : Shared} {K : Frag} {h₀ : Heap} {L e t : Addr} {m : Str → Option Value} {dx : Option Addr} {v : Value} {Q : Value → Shared → Prop}
theorem excinit_call (F : Fr h₀ L s.heap m) (N : News h₀ L s.heap [(e, excO t none)]) (X : (Mine.hd.heap_39 w.params).In h₀) (hm : mroIn (Mine.hd.heap_39 w.params) 52 (.type "Exception") = some true)
    (h : ∀ h' t', Fr h₀ L h' m → News h₀ L h' [(e, excO t' none)] → Q .none { s with heap := h' }) :
    wpAny (model prog w) A (call (.builtin "Exception.__init__") [.ref e, v]) Q E s := by
  have FB := PySem.F.excBase_Exception
  have he := (N _ (.head _)).1
  have L1 : Looks (model prog w) s.heap (isInstance (.ref e) (.type "Exception")) true := ((Looks.ld (part := some headPart) he).andThen .now).andThen (looks_mroIn (X.keeps F.keep) hm)
  have hshort := FB.noStar
  have hC := (X.keeps F.keep) 52 _ rfl
  refine wpAny_call (codeAny_call_builtin FB.init.plain FB.initEntry ?_)
  simp only [checkBuiltinCall, FB.initKind, FB.initSplit, FB.initRow]
  refine wpAny_bind (L1.here ?_)
  repeat (first | with_reducible refine wpAny_load hC ?_ | with_reducible refine wpAny_loadPart_at hC ?_ | wp_step)
  have U := news_upd (pre := []) (d := e) (o := excO t none) (o' := excO s.heap.objs.size none) (f := Obj.mapFields fun x => x.setIfInBounds 0 (Value.ref s.heap.objs.size)) (F.push { cls := .type "tuple", data := .seq #[v] }) (News.keeps' N (fun b o e => Heap.get?_push_of_some _ e)) (fun _ h => nomatch h) (fun _ h => nomatch h) rfl rfl
  exact h _ _ U.1 U.2
end

end Mine
end
section
open PySem PySem.W PyProof.Rows PyProof.V PySem.Spec PySem.Calls
open Builtin Builtin.ObjectAttr
set_option Elab.async false
set_option maxRecDepth 100000
namespace Mine

abbrev bmE : List Value := [.type "Exception", .type "BaseException", .type "object"]
theorem refuse_exc (self : Value) : refuseLoop self "__setattr__" (.ref 52 :: .ref 39 :: bmE) = pure () := by
  rw [refuseLoop_ref, refuseLoop_ref]
  exact PySem.F.store_Exception.passes self

section
variable {prog : Program} {w : World} {A : Around} {E : Value → Shared → Prop} {s : Shared} {K : Frag} {x : Addr} {ox : Obj} {od : Option Obj} {name : Str} {tk : Tok} {v : Value} {R : Result → Shared → Prop}

theorem osaE_open (X : K.In s.heap) (I : InstAt s.heap x ox 52 od) (hm : mroIn K 52 (.type "object") = some true) (hc : (clsIn K 52).map (·.mro) = some (.ref 52 :: .ref 39 :: bmE)) (ha : findIn K (.ref 52) name = some none)
    (h : ∀ b, wpAny (model prog w) A.in1 (storeInOwnDict (.ref x) (.ref 52) (.str name tk) name v b)
      (fun fin s' => match fin with | .done f => R (.ok f) s' | .again c' => c'.quiet = true ∧ codeAny (model prog w) A c' R s') (fun e s' => R (.error e) s') s) :
    codeAny (model prog w) A (.call (.builtin "object.__setattr__") ⟨[.ref x, .str name tk, v], []⟩) R s := by
  cases hq : clsIn K 52 with
  | none => rw [hq] at hc; cases hc
  | some cd =>
    rw [hq] at hc
    have e : cd.mro = .ref 52 :: .ref 39 :: bmE := Option.some.inj hc
    have order : Looks (model prog w) s.heap (mroOf (.ref 52)) (.ref 52 :: .ref 39 :: bmE) := e ▸ (looks_clsIn X hq).andThen .now
    have isObj : Looks (model prog w) s.heap (isInstance (.ref x) (.type "object")) true := I.type.andThen (looks_mroIn X hm)
    have noAttr : Looks (model prog w) s.heap (storeTaker? none) none := .now
    refine codeAny_call_builtin PySem.F.store_object.slot.plain PySem.F.store_object.entry (@check_slot (model prog w) _ _ s _ _ _ (.ref x) [.str name tk, v] [] _ PySem.F.store_object.kind PySem.F.store_object.split isObj (PySem.F.store_object.args (.ref x) (.str name tk) v) ?_)
    rw [osa_eq, refuse_eq]
    refine wpAny_bind (wpAny_bind (I.type.here (wpAny_bind (order.here ?_))))
    rw [refuse_exc]
    refine wpAny_pure (wpAny_bind (I.type.here (wpAny_bind ?_)))
    exact (looks_findIn X ha).here (wpAny_bind (noAttr.here (h _)))
end

section
variable {prog : Program} {w : World} {A : Around} {E : Value → Shared → Prop} {s : Shared} {K : Frag} {h₀ : Heap} {L e t dx : Addr} {m : Str → Option Value} {es : List DictEntry} {n : Nat} {name : Str} {tk : Tok} {v : Value} {R : Result → Shared → Prop}

/-- no key of the dict hides the name -/
def plainKeys (name : Str) (es : List DictEntry) : Bool := !es.any (fun x => x.key.isStr name) && es.any (fun x => x.refKey)
/-- a dict's entry put -/
theorem storeIn_at {od' : Obj} {n' : Nat} {es es' : List DictEntry} {pre post : List (Addr × Obj)} {Q : Fin → Shared → Prop} (F : Fr h₀ L s.heap m) (N : News h₀ L s.heap (pre ++ (dx, dictOf es n) :: post)) (h1 : ∀ p ∈ pre, p.1 ≠ dx) (h2 : ∀ p ∈ post, p.1 ≠ dx)
    (hp : plainKeys name es = false) (e : Obj.putName name (PyData.keyHash w.params name) (.str name s.toks) v (dictOf es n) = od') (e' : od'.data = .dict es'.toArray n') (hz : es'.length ≤ 1000)
    (h : ∀ h', Fr h₀ L h' m → News h₀ L h' (pre ++ (dx, od') :: post) → Q (.done (.ret .none)) { s with heap := h', toks := s.toks + 1 }) :
    wpAny (model prog w) A (storeInDict dx (.str name tk) name v) Q E s := by
  have hdict : od'.isFreed = false := by
    obtain ⟨_, _, _, _⟩ := od'
    cases e'; rfl
  have up := news_upd (f := Obj.putName name (PyData.keyHash w.params name) (.str name s.toks) v) F N h1 h2 e hdict
  have short : es'.toArray.size ≤ sizeLine := by rw [List.size_toArray, sizeLine_eq]; omega
  have before : s.heap.get? dx = some (dictOf es n) := (N (dx, dictOf es n) (List.mem_append_right _ (.head _))).1
  have behind := (up.2 (dx, od') (List.mem_append_right _ (.head _))).1
  have fin := h _ up.1 up.2
  unfold storeInDict newKeyGuard
  refine wpAny_bind (wpAny_pure (wpAny_bind ?_))
  unfold nsSet
  refine wpAny_bind (wpAny_bind (wpAny_askSetting (wpAny_pure (wpAny_bind (wpAny_mkText (wpAny_bind (wpAny_loadPart before ?_)))))))
  dsimp only
  have clear : aRefKeyMayBeTheName name es.toArray = false := by
    rw [aRefKeyMayBeTheName_at, List.any_toArray, List.any_toArray]
    exact hp
  rw [clear]
  refine wpAny_updatePart before (wpAny_bind (wpAny_lookBehind behind (by rw [e']; exact pastItsLine_dict (Nat.le_succ_of_le short)) ?_))
  exact wpAny_pure fin

theorem setE_more {es' : List DictEntry} {n' : Nat} {Q : Unit → Shared → Prop} (F : Fr h₀ L s.heap m) (N : News h₀ L s.heap ((e, excO t (some dx)) :: (dx, dictOf es n) :: [])) (hne : e ≠ dx) (X : K.In h₀)
    (hm : mroIn K 52 (.type "object") = some true) (hc : (clsIn K 52).map (·.mro) = some (.ref 52 :: .ref 39 :: bmE)) (ht : findIn K (.ref 52) name = some none) (hh : (clsIn K 52).any (·.hasDict) = true)
    (hs : findIn K (.ref 52) "__setattr__" = some (some (.builtin "object.__setattr__")))
    (hl : plainKeys name es = false) (ep : (putL name (PyData.keyHash w.params name) (.str name (s.toks + 1)) v es, putN name es n) = (es', n')) (hz : es'.length ≤ 1000)
    (h : ∀ h' tk', Fr h₀ L h' m → News h₀ L h' ((e, excO t (some dx)) :: (dx, dictOf es' n') :: []) → Q () { s with heap := h', toks := tk' }) :
    wpAny (model prog w) A (setAttr (.ref e) name v) Q E s := by
  have X' := X.keeps F.keep
  have I : InstAt s.heap e (excO t (some dx)) 52 (some (dictOf es n)) := ⟨(N _ (.head _)).1, rfl, rfl, (N _ (.tail _ (.head _))).1⟩
  obtain ⟨e1, e2⟩ := Prod.mk.inj ep
  obtain ⟨cd, hcd, hd'⟩ := any_some hh
  refine set_plain X' I hs (osaE_open (s := { s with toks := s.toks + 1 }) X' I hm hc ht fun b => ?_)
  refine wpAny_bind (wpAny_pure (wpAny_bind (wpAny_bind (wpAny_loadPart I.at_ (wpAny_bind ((looks_clsIn (M := model prog w) X' hcd).at ?_))))))
  rw [hd']
  refine wpAny_pure (a := some dx) ?_
  refine storeIn_at (s := { s with toks := s.toks + 1 }) (pre := [(e, excO t (some dx))]) (post := []) (es := es) F N (fun p hp => ?_) (fun p hp => nomatch hp) hl (by rw [putName_dict, e1, e2]) rfl hz fun h' F' N' => h _ _ F' N'
  rw [List.mem_singleton.mp hp]; exact hne

theorem setE_first {es' : List DictEntry} {n' : Nat} {Q : Unit → Shared → Prop} (F : Fr h₀ L s.heap m) (N : News h₀ L s.heap [(e, excO t none)]) (X : K.In h₀)
    (hm : mroIn K 52 (.type "object") = some true) (hc : (clsIn K 52).map (·.mro) = some (.ref 52 :: .ref 39 :: bmE)) (ht : findIn K (.ref 52) name = some none) (hh : (clsIn K 52).any (·.hasDict) = true)
    (hs : findIn K (.ref 52) "__setattr__" = some (some (.builtin "object.__setattr__")))
    (hl : plainKeys name [] = false) (ep : (putL name (PyData.keyHash w.params name) (.str name (s.toks + 1)) v [], putN name [] 0) = (es', n')) (hz : es'.length ≤ 1000)
    (h : ∀ h' tk' dx, e ≠ dx → Fr h₀ L h' m → News h₀ L h' ((e, excO t (some dx)) :: (dx, dictOf es' n') :: []) → Q () { s with heap := h', toks := tk' }) :
    wpAny (model prog w) A (setAttr (.ref e) name v) Q E s := by
  have X' := X.keeps F.keep
  have I : InstAt s.heap e (excO t none) 52 none := ⟨(N _ (.head _)).1, rfl, rfl, trivial⟩
  obtain ⟨e1, e2⟩ := Prod.mk.inj ep
  obtain ⟨cd, hcd, hd'⟩ := any_some hh
  have hex := Heap.get?_push_of_some { cls := .type "dict", data := .dict #[] } I.at_
  have hes : e ≠ s.heap.objs.size := Nat.ne_of_lt (Heap.lt_size I.at_)
  refine set_plain X' I hs (osaE_open (s := { s with toks := s.toks + 1 }) X' I hm hc ht fun b => ?_)
  refine wpAny_bind (wpAny_pure (wpAny_bind (wpAny_bind (wpAny_loadPart I.at_ (wpAny_bind ((looks_clsIn (M := model prog w) X' hcd).at ?_))))))
  rw [hd']
  dsimp only
  rw [if_neg (by simp)]
  refine wpAny_bind (wpAny_alloc' ?_)
  refine wpAny_bind (wpAny_update' hex ?_)
  have F1 := F.push { cls := .type "dict", data := .dict #[] }
  have N1 := N.push F { cls := .type "dict", data := .dict #[] }
  have U := news_upd (pre := [(s.heap.objs.size, { cls := .type "dict", data := .dict #[] })]) (post := []) (d := e) (o := excO t none) (o' := excO t (some s.heap.objs.size)) (f := fun o => { o with dict := some s.heap.objs.size }) F1 N1 (fun p hp => by rw [List.mem_singleton.mp hp]; exact hes.symm) (fun _ h => nomatch h) rfl rfl
  refine wpAny_pure ?_
  have hN : ∀ {h' : Heap} {d : Obj}, News h₀ L h' ((s.heap.objs.size, d) :: [(e, excO t (some s.heap.objs.size))]) → News h₀ L h' [(e, excO t (some s.heap.objs.size)), (s.heap.objs.size, d)] := fun N p hp => by
    refine N p ?_
    simp only [List.mem_cons, List.not_mem_nil, or_false] at hp ⊢
    exact hp.symm
  exact storeIn_at (s := ⟨(s.heap.push { cls := .type "dict", data := .dict #[] }).update e fun o => { o with dict := some s.heap.objs.size }, s.gens, s.drawn, s.toks + 1, s.os⟩) (pre := []) (post := [(e, excO t (some s.heap.objs.size))]) (es := []) U.1 U.2 (fun p hp => nomatch hp) (fun p hp => by rw [List.mem_singleton.mp hp]; exact hes) hl (by rw [putName_dict, e1, e2]) rfl hz fun h' F' N' => h _ _ _ hes F' (hN N')
end
end Mine
end
section
open PySem PySem.W PyProof.Rows PyProof.V PySem.Spec PySem.Calls
set_option Elab.async false
set_option maxRecDepth 100000
namespace Mine

set_option maxHeartbeats 8000000 in
theorem init_exc {w : World} {mean : ExcName → Option Value} {mg mb : Str → Option Value} {A : Around} {h0 : Heap} {e t : Addr} {to : Obj} {x : Str} {tx : Tok} {s : Shared} {Q E : Value → Shared → Prop}
    (X : (Mine.hd.heap_39 w.params).In h0) (T : Top Mine.hd.view_39 (looseW Mine.hd.view_39 [Str.ofString "PostError"]) mean mg mb h0) (hd : A.depth < 900) (hu : A.units < 9000)
    (k0 : Kp h0 s.heap) (he : s.heap.get? e = some (excO t none)) (hn : h0.get? e = none)
    (hQ : ∀ h' tk t' dx, Kp h0 h' → h'.get? e = some (excO t' (some dx)) → Q .none { s with heap := h', toks := tk }) :
    wpAny (model Challenge.rw_no0350_01.row.prog w) A (call (.ref 29) [.ref e, .str x tx]) Q E s := by
  w_top off
  revert X; k_fill; intro X
  refine wpAny_call ?_
  k_dflt (refine' enterN [(e, excO t none)] [(Str.ofString "self", .ref e), (Str.ofString "what", .str x tx), (Str.ofString "at", .int (-1) 202)] k0 ?hN X T ?k6 ?k7 ?k8 ?k9 ?kB ?_ ?c2 ?c3 ?c4 ?c5; (case k6 => k_is); (case k7 => k_is); (case k8 => (show A.depth < 1000); omega); (case k9 => exact BindsTo.of_defaults rfl ((X.keeps k0) 22 _ rfl) rfl rfl rfl); (case c5 => decide); (case kB => exact locs rfl); (case c2 => exact rfl); (case c3 => exact rfl); (case c4 => exact rfl))
  · intro p hp
    rw [List.mem_singleton.mp hp]
    exact ⟨he, hn⟩
  intro g h₁ kg X T F N
  dsimp only [bm, List.foldl] at F ⊢
  (try k_fold)
  k_steps
  refine method_type (v := .builtin "Exception.__init__") F X ?_ ?_ ?_ rfl ?_
  · first | rfl | kernel_rfl
  · decide +kernel
  · k_dflt k_is
  dsimp only
  k_steps
  rename Fr _ _ _ _ => F'
  rename News _ _ _ _ => N'
  refine excinit_call F' N' X ?_ fun h₂ t' F₂ N₂ => ?_
  · k_dflt k_is
  dsimp only
  (try k_fold)
  k_steps
  rename Fr _ _ _ _ => F'
  rename News _ _ _ _ => N'
  refine setE_first F' N' X rfl rfl ?_ rfl ?_ rfl rfl (show 1 ≤ 1000 by omega) fun h₃ tk₃ dx hne F₃ N₃ => ?_
  · k_dflt k_is
  · k_dflt k_is
  (try dsimp only)
  k_steps
  rename Fr _ _ _ _ => F'
  rename News _ _ _ _ => N'
  refine setE_more F' N' hne X rfl rfl ?_ rfl ?_ rfl rfl (show 2 ≤ 1000 by omega) fun h₃ tk₃ F₃ N₃ => ?_
  · k_dflt k_is
  · k_dflt k_is
  (try dsimp only)
  k_steps
  exact hQ _ _ _ _ (fun b o q => F₃.keep b o (kg b o q)) (N₃ _ (.head _)).1
end Mine
end
section
open PySem PySem.W PyProof.Rows PyProof.V PySem.Spec PySem.Calls
set_option Elab.async false
set_option maxRecDepth 100000
namespace Mine

/-- a StoreFault, made -/
def MadeO (g h' : Heap) (e : Addr) : Prop := Kp g h' ∧ g.get? e = none ∧ ∃ t dx, h'.get? e = some (excO t (some dx))
theorem MadeO.made {g h' : Heap} {e : Addr} (x : MadeO g h' e) : Made g h' e := by
  obtain ⟨k, n, t, dx, he⟩ := x
  exact ⟨k, n, _, _, .ref t, he, rfl, rfl, rfl, rfl⟩

abbrev bm52 : List Value := .ref 39 :: bmE
theorem cls52 {P : Params} {h : Heap} (X : (Mine.hd.heap_39 P).In h) : ∃ nm q hdct sn sub ab col dd k0 k1 k2 k3 k5, h.get? 52 = some (excClassObj nm q 52 51 [.ref 39] bm52 hdct sn sub ab col dd k0 k1 k2 k3 k5 "Exception.__new__") :=
  ⟨_, _, _, _, _, _, _, _, _, _, _, _, _, X 52 _ rfl⟩

theorem raise_made {w : World} {A : Around} {E : Value → Shared → Prop} {s : Shared} {env : Env} {x : Expr} {pos : Pos} {Q : Flow → Shared → Prop} (hh : A.handled = none)
    (h : wpAny (model Challenge.rw_no0350_01.row.prog w) A (eval x env) (fun v s₁ => ∃ e g, v = .ref e ∧ MadeO g s₁.heap e ∧ (Mine.hd.heap_39 w.params).In s₁.heap ∧ E (.ref e) s₁) E s) :
    wpAny (model Challenge.rw_no0350_01.row.prog w) A (exec (.Raise (some x) none pos) env) Q E s := by
  show wpAny _ A (do standAt pos; raiseStmt env (some (do let v ← eval x env; standAt pos; pure v)) none) Q E s
  refine wpAny_bind (wpAny_standAt ?_)
  unfold raiseStmt
  dsimp only
  refine wpAny_bind (wpAny_bind (wpAny_mono h (fun v s₁ h₁ => wpAny_bind (wpAny_standAt (wpAny_pure ?_))) fun _ _ x => x))
  obtain ⟨e, g, rfl, ⟨_, _, t, dx, he⟩, X, hE⟩ := h₁
  obtain ⟨nm, q, hdct, sn, sub, ab, col, dd, k0, k1, k2, k3, k5, hC⟩ := cls52 X
  obtain ⟨hp, gg, d, tk, os⟩ := s₁
  have hcB : (Value.ref 52 :: bm52).contains (.type "BaseException") = true := by decide
  repeat (first | with_reducible refine wpAny_loadPart_at he ?_ | with_reducible refine wpAny_loadPart_at hC ?_ | (with_reducible refine wpAny_isSubtype_exc hC ?_; rw [hcB]) | wp_step)
  exact wpAny_raiseNew_none hh hE

section
variable {w : World} {prog : Program} {A : Around} {h : Heap} {g : Array GenState} {d : Drawn} {t : Nat} {os : OsState} {R : Result → Shared → Prop}
  {nm q : Str} {hdct : Bool} {sn : List Str} {sub : List Value} {ab : Bool} {col : Option Bool} {dd : Option Addr} {k0 k1 k2 k3 k5 : Option Value}

theorem store_chk {M : Model} {A : Around} {E : Value → Shared → Prop} {rest : List Value} {Q : Unit → Shared → Prop} (hC : h.get? 52 = some (excClassObj nm q 52 51 [.ref 39] bm52 hdct sn sub ab col dd k0 k1 k2 k3 k5 "Exception.__new__"))
    (hq : Q () ⟨h, g, d, t, os⟩) : wpAny M A (checkBuiltinCall "Exception.__new__" ⟨.ref 52 :: rest, []⟩) Q E ⟨h, g, d, t, os⟩ := by
  have F := PySem.F.excBase_Exception
  have hcont : (Value.ref 52 :: bm52).contains (.type "Exception") = true := by decide
  have hstar := F.noStar
  simp only [checkBuiltinCall, F.newKind, F.newSplit, F.newRow]
  repeat (first | refine wpAny_loadPart_at hC ?_ | (refine wpAny_isSubtype_exc hC ?_; rw [hcont]) | refine wpAny_staticBase_exc hC ?_ | refine wpAny_madeBy_exc hC ?_ | simp only [bne_self_eq_false, Bool.false_eq_true, if_false] | wp_step)
  exact hq

theorem store_new {rest : List Value} (hC : h.get? 52 = some (excClassObj nm q 52 51 [.ref 39] bm52 hdct sn sub ab col dd k0 k1 k2 k3 k5 "Exception.__new__"))
    (hq : R (.ok (.ret (.ref (h.objs.size + 1)))) ⟨(h.push { cls := .type "tuple", data := .seq rest.toArray }).push (excO h.objs.size none), g, d, t, os⟩) (hrest : rest.length ≤ sizeLine := by size_fits) :
    codeAny (model prog w) A (.builtin "Exception.__new__" ⟨.ref 52 :: rest, []⟩) R ⟨h, g, d, t, os⟩ := by
  have F := PySem.F.excBase_Exception
  have hends := F.ends
  have hcB : (Value.ref 52 :: bm52).contains (.type "Exception") = true := by decide
  have hcA : (Value.ref 52 :: bm52).contains (.type "AttributeError") = false := by decide
  have hcN : (Value.ref 52 :: bm52).contains (.type "NameError") = false := by decide
  refine codeAny_builtinAt F.entry ?_
  unfold Builtin.«BaseException.__new__»
  refine PySem.wpAt_bind ?_
  show PySem.wpAt _ _ _ (stack >>= _) _ _ _
  refine PySem.wpAt_bind (PySem.wpAt_stack fun p below => PySem.wpAt_of_wpAny ?_)
  wp_walk
  refine PySem.wpAt_of_wpAny ?_
  rw [F.owner]
  repeat (first | with_reducible refine wpAny_madeHere_exc F.canon hC ?_ | with_reducible refine wpAny_loadPart_at hC ?_ | (with_reducible refine wpAny_isSubtype_exc hC ?_; first | rw [hcB] | rw [hcA] | rw [hcN]) | wp_step)
  show R _ _
  rw [Heap.size_push]
  exact hq
end

theorem store_call {w : World} {mean : ExcName → Option Value} {mg mb : Str → Option Value} {A : Around} {x : Str} {tx : Tok} {s : Shared} {Q E : Value → Shared → Prop}
    (X : (Mine.hd.heap_39 w.params).In s.heap) (T : Top Mine.hd.view_39 (looseW Mine.hd.view_39 [Str.ofString "PostError"]) mean mg mb s.heap) (hd : A.depth < 890) (hu : A.units < 8900)
    (hfi : findIn (Mine.hd.heap_39 w.params) (.ref 52) "__init__" = some (some (.ref 29))) (hfn : typeIn (Mine.hd.heap_39 w.params) (.ref 29) = some (.type "function"))
    (hQ : ∀ e h' tk, MadeO s.heap h' e → Q (.ref e) { s with heap := h', toks := tk }) :
    wpAny (model Challenge.rw_no0350_01.row.prog w) A (call (.ref 52) [.str x tx]) Q E s := by
  obtain ⟨h, g, d, t, os⟩ := s
  obtain ⟨nm, q, hdct, sn, sub, ab, col, dd, k0, k1, k2, k3, k5, hC⟩ := cls52 X
  have F := PySem.F.excBase_Exception
  have f1 := tc_lookup
  have f2 := tc_bind (.ref 52)
  have hT : (⟨h, g, d, t, os⟩ : Shared).TypeIs (.ref 52) "type" := ⟨_, hC, rfl⟩
  refine wpAny_call (codeAny_of_tree ?_)
  show wpAny _ _ (callAny (.ref 52) _) _ _ _
  repeat (any_goals (first | assumption | with_reducible refine wpAny_loadPart_at hC ?_ | wp_step))
  refine ⟨rfl, ?_⟩
  refine codeAny_call_builtin_at (Code.quiet_builtin _ (by decide +kernel)) entry_typeCall (wpAny_check_type_call_sub hC ?_)
  repeat (first | with_reducible refine wpAny_loadPart_at hC ?_ | with_reducible refine wpAny_madeBy_exc hC ?_ | wp_step)
  refine codeAny_call_builtin_code (Code.quiet_builtin _ F.quiet) (store_chk hC ?_)
  refine store_new hC ?_ (show 1 ≤ sizeLine by rw [sizeLine_eq]; omega)
  show wpAny _ _ _ _ _ (Shared.mk ((h.push { cls := .type "tuple", data := .seq [Value.str x tx].toArray }).push (excO h.objs.size none)) g d t os)
  have k2 : Kp h ((h.push { cls := .type "tuple", data := .seq [Value.str x tx].toArray }).push (excO h.objs.size none)) := fun b o e => Heap.get?_push_of_some _ (Heap.get?_push_of_some _ e)
  have hget : ((h.push { cls := .type "tuple", data := .seq [Value.str x tx].toArray }).push (excO h.objs.size none)).get? (h.objs.size + 1) = some { cls := .ref 52, data := .fields #[.ref h.objs.size, .none, .none, .none, .bool false, .none] } := by heap_get
  have hcC : (Value.ref 52 :: bm52).contains (.ref 52) = true := by decide
  have hC₁ := k2 _ _ hC
  unfold isInstance
  repeat (first | with_reducible refine wpAny_loadPart_at hget ?_ | (refine wpAny_isSubtype_exc hC₁ ?_; rw [hcC]) | wp_step)
  show wpAny _ _ (typeLookup (.ref 52) _) _ _ _
  refine (looks_findIn (X.keeps k2) hfi).at ?_
  refine wpAny_holding (wpAny_bind ((bind_fn (X.keeps k2) _ hfn).at ?_))
  refine wpAny_bind ?_
  refine init_exc (to := excO 0 none) (A := A.under (.builtin "type.__call__" ⟨.ref 52 :: [Value.str x tx], []⟩)) X T (by rw [depth_under_make]; omega) (by rw [units_under_make]; omega) k2 hget (Heap.get?_none_of_le (Nat.le_succ _)) fun h' tk' t' dx kk he => ?_
  repeat (first | wp_step)
  exact hQ _ _ _ ⟨kk, Heap.get?_none_of_le (Nat.le_succ _), _, _, he⟩

theorem call_store (x : Str) (tx : Tok) : Con 52 [.str x tx] 2 (fun _ => True) (fun g v h => ∃ e, v = .ref e ∧ MadeO g h e) := by
  unfold Con
  k_fill
  intro w mean mg mb dp un fr gd s Q E X T _ hd hu hret
  refine store_call X T (by show dp < 890; omega) (by show un < 8900; omega) ?_ ?_ fun e h' tk hm => ?_
  · k_dflt k_is
  · k_dflt k_is
  · exact hret _ _ _ ⟨e, rfl, hm⟩ hm.1
end Mine
end
section
open PySem PySem.W PyProof.Rows PyProof.V PySem.Spec PySem.Calls
set_option Elab.async false
set_option maxRecDepth 100000
namespace Mine

local macro_rules | `(tactic| walk_at "exec For Name Call cons nil") => `(tactic| (k_here; (rename Fr _ _ _ _ => lF'); (with_unfolding_all refine' For_turns lF' ?_; k_whole)))
local macro_rules | `(tactic| walk_at "exec Raise some none") => `(tactic| (k_here; (refine raise_made rfl ?_)))


set_option maxHeartbeats 8000000 in
theorem call_flagName (x : Str) (tx : Tok) (hx : x.length ≤ 200) : ConX 75 [.str x tx] 3 (fun _ => True) (fun _ v _ => ∃ y t, v = .str y t ∧ flagName x = some y) (flagName x = none) := by
  w_top off
  unfold ConX
  k_fill
  intro w mean mg mb dp un fr gd B l s Q E X T _ K hd hu hret hrs
  refine wpAny_call ?_
  k_dflt (refine' enter0 [(Str.ofString "text", .str x tx)] ?k1 ?k2 ?k6 ?k7 ?k8 ?k9 ?kB ?_ ?c2 ?c3 ?c4 ?c5; (case k1 => exact X); (case k2 => exact T); (case k6 => k_is); (case k7 => k_is); (case k8 => (show dp < 1000); omega); (case k9 => exact BindsTo.of_eq rfl); (case c5 => decide); (case kB => exact locs rfl); (case c2 => exact rfl); (case c3 => exact rfl); (case c4 => exact rfl))
  intro h₁ F N
  dsimp only [bm, List.foldl] at F ⊢
  (try k_fold)
  k_steps
  rename Fr _ _ _ _ => F
  rename News _ _ _ _ => N
  refine call_sys w mean mg mb _ _ _ _ _ _ _ (X.keeps F.keep) (T.keeps F.keep) trivial (by (show dp + 1 + 10 * 1 < 900); omega) (by (show un + 3 + 100 * 1 < 9000); omega) ?_
  rintro v h₂ tk₂ ⟨D, vs, rfl, hD, ⟨n, hg⟩, hS⟩ hk
  have N₂ := news_new F N hk hD hg
  have F₂ := F.keeps hk
  k_steps
  · rename Fr _ _ _ _ => F₂
    have hl : h₂.IsList D vs.toArray := ⟨_, hg, rfl, _, rfl⟩
    refine wpAny_mono (it_list rfl hl) (fun it s₂ G => for_go (mt := []) (fx := []) (fun i m mt => mt = [] ∧ (∃ u, m = fun y => if y = Str.ofString "name" then u else if y = Str.ofString "text" then some (.str x tx) else none) ∧ ∀ n ∈ sysL.take i, ¬ Txt.lower x = Txt.lower n) G F₂ News.nil ?_ ⟨rfl, ⟨none, ?_⟩, by simp⟩ ?_ ?_) (fun _ _ e => e)
    · intro b hb
      rw [List.mem_singleton.mp hb]
      exact ⟨fun e => (N₂ _ (.head _)).2.1 e, fun p hp => nomatch hp⟩
    · funext y
      by_cases e : y = Str.ofString "name"
      · subst e; rfl
      · rw [if_neg e]
    · rintro i v m₁ mt₁ h tk own hi hP ha hoff ⟨rfl, ⟨u', rfl⟩, hJ⟩ F₁ N₁
      obtain ⟨y, ty, rfl, hy⟩ := hS.item i v (by simpa using hP)
      have hyl : y.length ≤ 200 := sys_short y (List.mem_of_getElem? hy)
      k_steps
      · dsimp only
        rename (Txt.lower x == Txt.lower y) = true => hc
        exact hret _ _ _ ⟨_, _, rfl, flagName_sys (sysOf_some hy hJ (eq_of_beq hc))⟩ (Fr.keep (by assumption))
      · rename (Txt.lower x == Txt.lower y) = false => hc
        exact TEnd.next (mt' := []) (.inl rfl) (by assumption) (by assumption) (fun p hp => hp) rfl ⟨rfl, ⟨_, upd_upd⟩, takeL_snoc hy hJ (fun e => by rw [e] at hc; simp at hc)⟩
    · rintro m₁ mt₁ h tk ⟨rfl, ⟨u', rfl⟩, hJ⟩ F₁ N₁
      have hs : sysOf x = none := by
        refine sysOf_none ?_
        have hz : vs.toArray.size = sysL.length := by rw [List.size_toArray]; exact hS.length
        rwa [hz] at hJ
      (try dsimp only)
      k_steps
      rename Fr _ _ _ _ => F₃
      rename News _ _ _ _ => N₃
      refine call_isKw x tx hx w mean mg mb _ _ _ _ _ _ _ (X.keeps F₃.keep) (T.keeps F₃.keep) trivial (by (show dp + 1 + 10 * 1 < 900); omega) (by (show un + 3 + 100 * 1 < 9000); omega) ?_
      rintro v h₄ tk₄ rfl hk₄
      have F₄ := F₃.keeps hk₄
      have N₄ : News s.heap s.heap.objs.size h₄ [] := News.nil
      generalize hq : isKw x = q
      cases q
      · k_steps
        refine call_store _ _ w mean mg mb _ _ _ _ _ _ _ (X.keeps F₄.keep) (T.keeps F₄.keep) trivial (by (show dp + 1 + 10 * 2 < 900); omega) (by (show un + 3 + 100 * 2 < 9000); omega) ?_
        rintro v h₅ tk₅ ⟨e, rfl, hm⟩ hk₅
        refine ⟨e, _, rfl, hm, (X.keeps F₄.keep).keeps hk₅, ?_⟩
        exact leave_made K F₄ rfl rfl hm.made fun h' hf => hrs (flagName_no hs hq) e h' _ hf
      · k_steps
        dsimp only
        exact hret _ _ _ ⟨_, _, rfl, flagName_kw hs hq⟩ F₄.keep
end Mine
end
section
open PySem PySem.W PyProof.Rows PyProof.V PySem.Spec PySem.Calls
set_option Elab.async false
set_option maxRecDepth 100000
namespace Mine

set_option maxHeartbeats 8000000 in
theorem call_same (x y : Str) (tx ty : Tok) (hx : x.length ≤ 200) (hy : y.length ≤ 200) : ConX 82 [.str x tx, .str y ty] 4 (fun _ => True) (fun _ v _ => ∃ a b, v = .bool (a == b) ∧ flagName x = some a ∧ flagName y = some b) (flagName x = none ∨ flagName y = none) := by
  w_top off
  unfold ConX
  k_fill
  intro w mean mg mb dp un fr gd B l s Q E X T _ K hd hu hret hrs
  refine wpAny_call ?_
  k_dflt (refine' enter0 [(Str.ofString "one", .str x tx), (Str.ofString "other", .str y ty)] ?k1 ?k2 ?k6 ?k7 ?k8 ?k9 ?kB ?_ ?c2 ?c3 ?c4 ?c5; (case k1 => exact X); (case k2 => exact T); (case k6 => k_is); (case k7 => k_is); (case k8 => (show dp < 1000); omega); (case k9 => exact BindsTo.of_eq rfl); (case c5 => decide); (case kB => exact locs rfl); (case c2 => exact rfl); (case c3 => exact rfl); (case c4 => exact rfl))
  intro h₁ F N
  dsimp only [bm, List.foldl] at F ⊢
  (try k_fold)
  k_steps
  rename Fr _ _ _ _ => F
  rename News _ _ _ _ => N
  refine call_flagName x tx hx w mean mg mb _ _ _ _ _ _ _ _ _ (X.keeps F.keep) (T.keeps F.keep) trivial (pushX K F rfl rfl) (by (show dp + 1 + 10 * 3 < 900); omega) (by (show un + 3 + 100 * 3 < 9000); omega) ?_ ?_
  · rintro v h₂ tk₂ ⟨a, ta, rfl, ha⟩ hk
    have F₂ := F.keeps hk
    have N₂ : News s.heap s.heap.objs.size h₂ [] := News.nil
    k_steps
    rename Fr _ _ _ _ => F₂
    refine call_flagName y ty hy w mean mg mb _ _ _ _ _ _ _ _ _ (X.keeps F₂.keep) (T.keeps F₂.keep) trivial (pushX K F₂ rfl rfl) (by (show dp + 1 + 10 * 3 < 900); omega) (by (show un + 3 + 100 * 3 < 9000); omega) ?_ ?_
    · rintro v h₃ tk₃ ⟨b, tb, rfl, hb⟩ hk
      have F₃ := F₂.keeps hk
      have N₃ : News s.heap s.heap.objs.size h₃ [] := News.nil
      k_steps
      (try dsimp only)
      exact hret _ _ _ ⟨a, b, rfl, ha, hb⟩ (Fr.keep (by assumption))
    · rintro hn e h₃ tk₃ fl
      exact leave_flown K F₂ rfl fl fun h' hf => hrs (.inr hn) e h' _ hf
  · rintro hn e h₃ tk₃ fl
    exact leave_flown K F rfl fl fun h' hf => hrs (.inl hn) e h' _ hf
end Mine
end
section
open PySem PySem.W PyProof.Rows PyProof.V PySem.Spec PySem.Calls
set_option Elab.async false
namespace Mine

def leS (a b : Str) : Bool := !ltCps b.cps.toList a.cps.toList
theorem leS_iff (a b : Str) : leS a b = true ↔ a.cps.toList ≤ b.cps.toList := by
  unfold leS
  rw [ltCps_eq]
  simp [List.not_lt]
theorem leS_trans (a b c : Str) (h1 : leS a b = true) (h2 : leS b c = true) : leS a c = true := by
  rw [leS_iff] at *
  exact List.le_trans h1 h2
theorem leS_total (a b : Str) : (leS a b || leS b a) = true := by
  rw [Bool.or_eq_true, leS_iff, leS_iff]
  exact List.le_total _ _
theorem Str_ext {a b : Str} (h : a.cps.toList = b.cps.toList) : a = b := by
  obtain ⟨⟨x⟩⟩ := a
  obtain ⟨⟨y⟩⟩ := b
  simp at h
  rw [h]
theorem leS_anti {a b : Str} (h1 : leS a b = true) (h2 : leS b a = true) : a = b := by
  rw [leS_iff] at *
  exact Str_ext (List.le_antisymm h1 h2)

def sortS (l : List Str) : List Str := l.mergeSort leS
theorem sortS_perm (l : List Str) : (sortS l).Perm l := List.mergeSort_perm l leS
theorem sortS_pair (l : List Str) : (sortS l).Pairwise (fun a b => leS a b = true) := List.pairwise_mergeSort leS_trans leS_total l
theorem rising_pair : ∀ (p : Str) (l : List Str), risingS p l = true → (p :: l).Pairwise (fun a b => leS a b = true)
  | p, [], _ => by simp
  | p, x :: r, h => by
    obtain ⟨h1, h2⟩ := Bool.and_eq_true_iff.mp (show (!ltCps x.cps.toList p.cps.toList && risingS x r) = true from h)
    have ih := rising_pair x r h2
    refine List.pairwise_cons.mpr ⟨fun y hy => ?_, ih⟩
    rcases List.mem_cons.mp hy with rfl | hy
    · exact h1
    · exact leS_trans _ _ _ h1 (List.rel_of_pairwise_cons ih hy)
theorem sorted_pair : ∀ {l : List Str}, sortedS l = true → l.Pairwise (fun a b => leS a b = true)
  | [], _ => List.Pairwise.nil
  | x :: r, h => rising_pair x r h
theorem pair_uniq : ∀ {a b : List Str}, a.Perm b → a.Pairwise (fun a b => leS a b = true) → b.Pairwise (fun a b => leS a b = true) → a = b
  | [], b, p, _, _ => (List.nil_perm.mp p).symm ▸ rfl
  | x :: a, [], p, _, _ => absurd p.length_eq (by simp)
  | x :: a, y :: b, p, ha, hb => by
    have hxy : x = y := by
      have h1 : x ∈ y :: b := p.mem_iff.mp (.head _)
      have h2 : y ∈ x :: a := p.mem_iff.mpr (.head _)
      rcases List.mem_cons.mp h1 with e | m1
      · exact e
      · rcases List.mem_cons.mp h2 with e | m2
        · exact e.symm
        · exact leS_anti (List.rel_of_pairwise_cons ha m2) (List.rel_of_pairwise_cons hb m1)
    subst hxy
    rw [pair_uniq (List.Perm.cons_inv p) (List.pairwise_cons.mp ha).2 (List.pairwise_cons.mp hb).2]
theorem sortS_uniq {a l : List Str} (p : a.Perm l) (h : sortedS a = true) : a = sortS l :=
  pair_uniq (p.trans (sortS_perm l).symm) (sorted_pair h) (sortS_pair l)
theorem sortS_of_pair {a : List Str} (h : a.Pairwise (fun a b => leS a b = true)) : sortS a = a :=
  pair_uniq (sortS_perm a) (sortS_pair a) h
theorem sortS_congr {a b : List Str} (p : a.Perm b) : sortS a = sortS b :=
  pair_uniq ((sortS_perm a).trans (p.trans (sortS_perm b).symm)) (sortS_pair a) (sortS_pair b)

/-- a name put at the end, if it is not there -/
def addU (acc : List Str) (y : Str) : List Str := if y ∈ acc then acc else acc ++ [y]
def dedup (l : List Str) : List Str := l.foldl addU []
theorem addU_in {acc : List Str} {y : Str} (h : y ∈ acc) : addU acc y = acc := if_pos h
theorem addU_out {acc : List Str} {y : Str} (h : ¬ y ∈ acc) : addU acc y = acc ++ [y] := if_neg h
theorem mem_addU {acc : List Str} {y z : Str} : z ∈ addU acc y ↔ z ∈ acc ∨ z = y := by
  unfold addU
  split
  · rename_i h
    exact ⟨.inl, fun q => q.elim id fun e => e ▸ h⟩
  · simp
theorem nodup_addU {acc : List Str} {y : Str} (h : acc.Nodup) : (addU acc y).Nodup := by
  unfold addU
  split
  · exact h
  · rename_i q
    rw [List.nodup_append]
    refine ⟨h, by simp, fun a ha b hb => ?_⟩
    rw [List.mem_singleton.mp hb]
    exact fun e => q (e ▸ ha)
theorem foldl_addU : ∀ (l acc : List Str), acc.Nodup → (l.foldl addU acc).Nodup ∧ ∀ z, z ∈ l.foldl addU acc ↔ z ∈ acc ∨ z ∈ l
  | [], acc, h => ⟨h, fun z => by simp⟩
  | y :: l, acc, h => by
    obtain ⟨a, b⟩ := foldl_addU l (addU acc y) (nodup_addU h)
    refine ⟨a, fun z => ?_⟩
    rw [List.foldl_cons, b, mem_addU, List.mem_cons]
    constructor
    · rintro ((q | q) | q)
      · exact .inl q
      · exact .inr (.inl q)
      · exact .inr (.inr q)
    · rintro (q | q | q)
      · exact .inl (.inl q)
      · exact .inl (.inr q)
      · exact .inr q
theorem nodup_dedup (l : List Str) : (dedup l).Nodup := (foldl_addU l [] List.nodup_nil).1
theorem mem_dedup {l : List Str} {z : Str} : z ∈ dedup l ↔ z ∈ l := by
  have := (foldl_addU l [] List.nodup_nil).2 z
  simp only [List.not_mem_nil, false_or] at this
  exact this
theorem perm_of_same {a b : List Str} (ha : a.Nodup) (hb : b.Nodup) (h : ∀ z, z ∈ a ↔ z ∈ b) : a.Perm b :=
  (List.perm_ext_iff_of_nodup ha hb).mpr h
theorem len_addU {acc : List Str} {y : Str} : (addU acc y).length ≤ acc.length + 1 := by
  unfold addU
  split <;> simp
theorem len_foldU : ∀ (l acc : List Str), (l.foldl addU acc).length ≤ acc.length + l.length
  | [], acc => by simp
  | y :: l, acc => by
    have := len_foldU l (addU acc y)
    have := @len_addU acc y
    simp only [List.foldl_cons, List.length_cons]
    omega
theorem len_dedup (l : List Str) : (dedup l).length ≤ l.length := by
  have := len_foldU l []
  simp only [List.length_nil, Nat.zero_add] at this
  exact this

/-- the tuple of flags that a row of texts gives -/
def flagTup (l : List Str) : Option (List Str) := (l.mapM flagName).map fun ns => sortS (dedup ns)
end Mine
end
section
open PySem PySem.W PyProof.Rows PyProof.V PySem.Spec PySem.Calls PySem.SeqAt
set_option Elab.async false
set_option maxRecDepth 100000
namespace Mine

/-- a list or a tuple -/
def SqAt (h : Heap) (l : Addr) (vs : List Value) : Prop := h.IsList l vs.toArray ∨ h.IsTuple l vs.toArray

theorem it_seq {prog : Program} {w : World} {A : Around} {E : Value → Shared → Prop} {s : Shared} {x : Str} {px : Pos} {l : Addr} {vs : List Value} (hh : A.handled = none) (hl : SqAt s.heap l vs) :
    wpAny (model prog w) A (pyIter (.ref l)) (GoIt prog w A (.Name x px) s.heap s vs.toArray.size (fun i v _ => vs.toArray[i]? = some v) [l]) E s := by
  rcases hl with hl | hl
  · exact it_list hh hl
  · exact it_tuple hh hl
theorem SqAt.keeps {h h' : Heap} {l : Addr} {vs : List Value} (x : SqAt h l vs) (k : Kp h h') : SqAt h' l vs :=
  x.imp (fun y => y.at fun o e => k _ o e) (fun y => y.at fun o e => k _ o e)
theorem SqAt.lt {h : Heap} {l : Addr} {vs : List Value} (x : SqAt h l vs) : l < h.objs.size := by
  rcases x with ⟨o, ho, _⟩ | ⟨o, ho, _⟩ <;> exact Heap.lt_size ho
theorem SqAt.some {h : Heap} {l : Addr} {vs : List Value} (x : SqAt h l vs) : ∃ o, h.get? l = some o := by
  rcases x with ⟨o, ho, _⟩ | ⟨o, ho, _⟩ <;> exact ⟨o, ho⟩

theorem strs_any {x : Str} : ∀ {vs : List Value} {ss : List Str}, StrsAre vs ss → (vs.any fun v => strOf v == x) = decide (x ∈ ss)
  | _, _, .nil => by simp
  | _, _, .cons y t h => by
    rw [List.any_cons, strs_any h]
    by_cases e : y = x
    · subst e
      simp [strOf]
    · have h1 : (strOf (.str y t) == x) = false := by simpa [strOf] using e
      have h2 : ¬ x = y := fun q => e q.symm
      rw [h1, Bool.false_or]
      simp [h2]

section
variable {prog : Program} {w : World} {A : Around} {E : Value → Shared → Prop} {s : Shared} {l : Addr} {vs : List Value} {ss : List Str} {x : Str} {t : Tok} {Q : Value → Shared → Prop}
theorem eq_items (hS : StrsAre vs ss) : ∀ y, y ∈ vs.toArray → EqAt A.in1 s y (.str x t) (strOf y == x) := by
  intro y hy
  obtain ⟨z, u, rfl⟩ := hS.all y (by simpa using hy)
  exact (eqGives_str z x u t).at _ _
theorem notIn_strs (hl : SqAt s.heap l vs) (hS : StrsAre vs ss) (h : Q (.bool (!decide (x ∈ ss))) s) : wpAny (model prog w) A (compareOp .NotIn (.str x t) (.ref l)) Q E s := by
  have e : vs.toArray.any (fun v => strOf v == x) = decide (x ∈ ss) := by rw [List.any_toArray]; exact strs_any hS
  rcases hl with hl | hl
  · exact notIn_listAt (fun v => strOf v == x) hl (eq_items hS) (e ▸ h)
  · exact notIn_tupleAt (fun v => strOf v == x) hl (eq_items hS) (e ▸ h)
theorem in_strs (hl : SqAt s.heap l vs) (hS : StrsAre vs ss) (h : Q (.bool (decide (x ∈ ss))) s) : wpAny (model prog w) A (compareOp .In (.str x t) (.ref l)) Q E s := by
  have e : vs.toArray.any (fun v => strOf v == x) = decide (x ∈ ss) := by rw [List.any_toArray]; exact strs_any hS
  rcases hl with hl | hl
  · exact in_listAt (fun v => strOf v == x) hl (eq_items hS) (e ▸ h)
  · exact in_tupleAt (fun v => strOf v == x) hl (eq_items hS) (e ▸ h)
end

theorem upd2 {a b : Str} {v1 v2 u1 u2 : Option Value} {f : Str → Option Value} :
    (fun y => if y = b then v2 else if y = a then v1 else if y = b then u2 else if y = a then u1 else f y) = fun y => if y = b then v2 else if y = a then v1 else f y := by
  funext y
  by_cases e1 : y = b
  · rw [if_pos e1, if_pos e1]
  · by_cases e2 : y = a
    · rw [if_neg e1, if_pos e2, if_neg e1, if_pos e2]
    · rw [if_neg e1, if_neg e2, if_neg e1, if_neg e2, if_neg e1, if_neg e2]
theorem mapM_take {ls : List Str} {i : Nat} {y n : Str} {ns : List Str} (h : (ls.take i).mapM flagName = some ns) (hy : ls[i]? = some y) (hn : flagName y = some n) : (ls.take (i + 1)).mapM flagName = some (ns ++ [n]) := by
  rw [List.take_add_one, hy]
  simp [List.mapM_append, h, hn]
theorem mapM_none {ls : List Str} {y : Str} (hy : y ∈ ls) (hn : flagName y = none) : ls.mapM flagName = none := by
  induction ls with
  | nil => cases hy
  | cons z r ih =>
    rw [List.mapM_cons]
    rcases List.mem_cons.mp hy with rfl | hy
    · rw [hn]; rfl
    · rw [ih hy]
      cases flagName z <;> rfl
theorem dedup_snoc (l : List Str) (y : Str) : dedup (l ++ [y]) = addU (dedup l) y := by
  unfold dedup
  rw [List.foldl_append]; rfl
theorem strs_snoc {vs : List Value} {ss : List Str} (h : StrsAre vs ss) (y : Str) (t : Tok) : StrsAre (vs ++ [.str y t]) (ss ++ [y]) := h.append' (.cons y t .nil)
end Mine
namespace Mine
theorem mapM_len : ∀ {ls ns : List Str}, ls.mapM flagName = some ns → ns.length = ls.length
  | [], ns, h => by
    simp only [List.mapM_nil] at h
    cases h; rfl
  | x :: r, ns, h => by
    rw [List.mapM_cons] at h
    cases hx : flagName x with
    | none => rw [hx] at h; cases h
    | some a =>
      rw [hx] at h
      cases hr : r.mapM flagName with
      | none => rw [hr] at h; cases h
      | some b =>
        rw [hr] at h
        cases h
        rw [List.length_cons, List.length_cons, mapM_len hr]
theorem any_mem {a : Str} {l : List Str} (h : (l.any fun x => x == a) = true) : a ∈ l := by
  obtain ⟨x, hx, e⟩ := List.any_eq_true.mp h
  rw [← eq_of_beq e]; exact hx
theorem any_not {a : Str} {l : List Str} (h : (l.any fun x => x == a) = false) : ¬ a ∈ l := fun hm => by
  have := List.any_eq_false.mp h a hm
  simp at this
end Mine
namespace Mine
abbrev tupO (vs : List Value) (d : Option Addr) (n : Nat) (sl : Array (Option Value)) : Obj := { cls := .type "tuple", dict := d, data := .seq vs.toArray n, slots := sl }
abbrev lisO (vs : List Value) (d : Option Addr) (n : Nat) (sl : Array (Option Value)) : Obj := { cls := .type "list", dict := d, data := .seq vs.toArray n, slots := sl }
theorem tup_obj {h : Heap} {T : Addr} {vs : List Value} (x : h.IsTuple T vs.toArray) : ∃ d n sl, h.get? T = some (tupO vs d n sl) := by
  obtain ⟨⟨c, d, dd, sl⟩, ho, hc, n, hd⟩ := x
  dsimp only at hc hd
  subst hc hd
  exact ⟨d, n, sl, ho⟩
theorem lis_obj {h : Heap} {T : Addr} {vs : List Value} (x : h.IsList T vs.toArray) : ∃ d n sl, h.get? T = some (lisO vs d n sl) := by
  obtain ⟨⟨c, d, dd, sl⟩, ho, hc, n, hd⟩ := x
  dsimp only at hc hd
  subst hc hd
  exact ⟨d, n, sl, ho⟩
theorem news_tup {h₀ g h' : Heap} {L T : Addr} {vs : List Value} {m : Str → Option Value} {news : List (Addr × Obj)} (F : Fr h₀ L g m) (N : News h₀ L g news) (hk : Kp g h') (hD : g.get? T = none) (x : h'.IsTuple T vs.toArray) :
    ∃ d n sl, News h₀ L h' ((T, tupO vs d n sl) :: news) := by
  obtain ⟨d, n, sl, ho⟩ := tup_obj x
  exact ⟨d, n, sl, news_new F N hk hD ho⟩
theorem add_tups {prog : Program} {w : World} {A : Around} {E : Value → Shared → Prop} {s : Shared} {h₀ : Heap} {L : Addr} {m : Str → Option Value} {news : List (Addr × Obj)} {t b : Addr} {vs ws : List Value} {Q : Value → Shared → Prop} (F : Fr h₀ L s.heap m) (N : News h₀ L s.heap news) (ht : s.heap.IsTuple t vs.toArray) (hb : s.heap.IsTuple b ws.toArray)
    (hsz : vs.length + ws.length ≤ 1000)
    (h : ∀ r h', Fr h₀ L h' m → News h₀ L h' news → h'.IsTuple r (vs ++ ws).toArray → Q (.ref r) { s with heap := h' }) :
    wpAny (model prog w) A (binaryOp .Add (.ref t) (.ref b)) Q E s := by
  refine add_tuples F N ht hb (fun e => ?_) (fun _ e => ?_) (fun _ _ h' F' N' => ?_) (by rw [sizeLine_eq]; omega)
  · subst e; exact h b _ F N hb
  · subst e; exact h t _ F N (by rw [List.append_nil]; exact ht)
  · exact h _ _ F' (fun p hp => N' p (.tail _ hp)) ⟨_, (N' _ (.head _)).1, rfl, _, rfl⟩
theorem strsApp {vs ws : List Value} {a b : List Str} (h1 : StrsAre vs a) (h2 : StrsAre ws b) : StrsAre (vs ++ ws) (a ++ b) := h1.append' h2
end Mine
end
section
open PySem PySem.W PyProof.Rows PyProof.V PySem.Spec PySem.Calls PySem.SeqAt
set_option Elab.async false
set_option maxRecDepth 100000
namespace Mine

local macro_rules | `(tactic| walk_at "exec For Name Name cons nil") => `(tactic| (k_here; (rename Fr _ _ _ _ => lF'); (with_unfolding_all refine' For_turns lF' ?_; k_whole)))

set_option maxHeartbeats 8000000 in
theorem call_ftup (l : Addr) (vs : List Value) (ls : List Str) (hS : StrsAre vs ls) (hn : ls.length < 64) (hlen : ∀ x ∈ ls, x.length ≤ 200) :
    ConX 89 [.ref l] 5 (fun h => SqAt h l vs) (fun g v h => ∃ T ws fs, v = .ref T ∧ g.get? T = none ∧ h.IsTuple T ws.toArray ∧ StrsAre ws fs ∧ flagTup ls = some fs) (flagTup ls = none) := by
  w_top off
  unfold ConX
  k_fill
  intro w mean mg mb dp un fr gd B lv s Q E X T hl K hd hu hret hrs
  refine wpAny_call ?_
  k_dflt (refine' enter0 [(Str.ofString "flags", .ref l)] ?k1 ?k2 ?k6 ?k7 ?k8 ?k9 ?kB ?_ ?c2 ?c3 ?c4 ?c5; (case k1 => exact X); (case k2 => exact T); (case k6 => k_is); (case k7 => k_is); (case k8 => (show dp < 1000); omega); (case k9 => exact BindsTo.of_eq rfl); (case c5 => decide); (case kB => exact locs rfl); (case c2 => exact rfl); (case c3 => exact rfl); (case c4 => exact rfl))
  intro h₁ F N
  dsimp only [bm, List.foldl] at F ⊢
  (try k_fold)
  k_steps
  rename Fr _ _ _ _ => F₁
  rename News _ _ _ _ => N₁
  refine wpAny_mono (it_seq rfl (hl.keeps F₁.keep)) (fun it s₂ G => for_go (mt := [(_, W.listOf #[] 0)]) (fx := []) (fun i m mt => ∃ D ys n ns, mt = [(D, W.listOf (List.toArray ys) n)] ∧ (∃ u₁ u₂, m = fun y => if y = Str.ofString "name" then u₂ else if y = Str.ofString "text" then u₁ else if y = Str.ofString "found" then some (.ref D) else if y = Str.ofString "flags" then some (.ref l) else none) ∧ (ls.take i).mapM flagName = some ns ∧ StrsAre ys (dedup ns)) G F₁ N₁ ?_ ⟨_, [], 0, [], rfl, ⟨none, none, ?_⟩, by simp, .nil⟩ ?_ ?_) (fun _ _ e => e)
  · intro b hb
    rw [List.mem_singleton.mp hb]
    obtain ⟨o, ho⟩ := hl.some
    refine ⟨fun e => absurd hl.lt (by rw [e]; exact Nat.lt_irrefl _), fun p hp => ?_⟩
    rw [List.mem_singleton.mp hp]
    exact fun e => by have := (N₁ _ (.head _)).2.2; rw [e, ho] at this; cases this
  · funext y
    by_cases e1 : y = Str.ofString "name"
    · subst e1; rfl
    · rw [if_neg e1]
      by_cases e2 : y = Str.ofString "text"
      · subst e2; rfl
      · rw [if_neg e2]
  · rintro i v m₁ mt₁ h tk own hi hP ha hoff ⟨D, ys, n, ns, rfl, ⟨u₁, u₂, rfl⟩, hM, hY⟩ F₂ N₂
    obtain ⟨y, ty, rfl, hy⟩ := hS.item i v (by simpa using hP)
    have hyl : y.length ≤ 200 := hlen y (List.mem_of_getElem? hy)
    k_steps
    rename Fr _ _ _ _ => F₃
    rename News _ _ _ _ => N₃
    have hD : ∀ p ∈ own, p.1 ≠ D := fun p hp => hoff p hp D (by rw [← ha]; exact .head _)
    refine call_flagName y ty hyl w mean mg mb _ _ _ _ _ _ _ _ _ (X.keeps F₃.keep) (T.keeps F₃.keep) trivial (pushX K F₃ rfl rfl) (by (show dp + 1 + 10 * 3 < 900); omega) (by (show un + 3 + 100 * 3 < 9000); omega) ?_ ?_
    · rintro v h₄ tk₄ ⟨a, ta, rfl, hfa⟩ hk
      have F₄ := F₃.keeps hk
      have N₄ := N₃.keeps hk
      clear N₃ N₂
      k_steps
      · rename Fr _ _ _ _ => F₅
        rename News _ _ _ _ => N₅
        rename ((dedup ns).any fun x => x == a) = true => hq
        exact TEnd.next (mt' := [(D, W.listOf ys.toArray n)]) (.inl rfl) F₅ N₅ (fun p hp => hp) ha ⟨D, ys, n, _, rfl, ⟨_, _, upd2⟩, mapM_take hM hy hfa, by rw [dedup_snoc, addU_in (any_mem hq)]; exact hY⟩
      · rename Fr _ _ _ _ => F₅
        rename News _ _ _ _ => N₅
        rename ((dedup ns).any fun x => x == a) = false => hq
        refine append_head (rest := own) F₅ N₅ hD (fun h₆ F₆ N₆ => ?_) (by
          have h1 := hY.length
          have h2 := len_dedup ns
          have h3 := mapM_len hM
          rw [List.length_take] at h3
          rw [List.size_toArray, sizeLine_eq]; omega)
        (try dsimp only)
        clear N₅ F₅
        k_steps
        rename Fr _ _ _ _ => F₇
        rename News _ _ _ _ => N₇
        exact TEnd.next (mt' := [(D, W.listOf (ys ++ [Value.str a ta]).toArray (n + 1))]) (.inl rfl) F₇ (news' := [(D, W.listOf (ys ++ [Value.str a ta]).toArray (n + 1))] ++ ([] ++ own)) (by
          have e : ys.toArray.push (Value.str a ta) = (ys ++ [Value.str a ta]).toArray := by simp
          rw [← e]; exact N₇) (fun p hp => hp) ha ⟨D, ys ++ [Value.str a ta], n + 1, _, rfl, ⟨_, _, upd2⟩, mapM_take hM hy hfa, by rw [dedup_snoc, addU_out (any_not hq)]; exact strs_snoc hY a ta⟩
    · rintro hn e h₃ tk₃ fl
      refine leave_flown K F₃ rfl fl fun h' hf => hrs ?_ e h' _ hf
      unfold flagTup
      rw [mapM_none (List.mem_of_getElem? hy) hn]; rfl
  · rintro m₁ mt₁ h tk ⟨D, ys, n, ns, rfl, ⟨u₁, u₂, rfl⟩, hM, hY⟩ F₂ N₂
    (try dsimp only)
    k_steps
    rename Fr _ _ _ _ => F₃
    rename News _ _ _ _ => N₃
    have h1 := hY.length
    have h2 := len_dedup ns
    have h3 := mapM_len hM
    rw [List.length_take] at h3
    refine sorted_N_str (vs := ys) F₃ N₃ (N₃.isList (.head _)) hY (by omega) fun h₄ vs' ss' e F₄ N₄ hS' hp hso => ?_
    (try dsimp only)
    clear N₃ F₃
    k_steps
    rename Fr _ _ _ _ => F₅
    rename News _ _ _ _ => N₅
    have hsz : vs'.toArray.size ≤ sizeLine := by
      have h4 := hS'.length
      have h5 := hp.length_eq
      rw [List.size_toArray, sizeLine_eq]; omega
    refine call_tuple_list (hsz := hsz) (items := vs'.toArray) (N₅.isList (.head _)) fun h₆ hk => ?_
    have hT : ls.take vs.toArray.size = ls := List.take_of_length_le (by rw [List.size_toArray, hS.length]; exact Nat.le_refl _)
    rw [hT] at hM
    refine hret _ _ _ ⟨_, vs', ss', rfl, Kp.none (h' := h₆) (fun b o q => hk _ _ (F₅.keep _ _ q)) (none_of_size (Nat.le_refl _)), ⟨_, Heap.get?_push_size _ rfl, rfl, _, rfl⟩, hS', ?_⟩ fun b o q => Heap.get?_push_of_some _ (hk _ _ (F₅.keep _ _ q))
    unfold flagTup
    rw [hM]
    exact congrArg some (sortS_uniq hp hso).symm
end Mine
end
section
open PySem PySem.W PyProof.Rows PyProof.V PySem.Spec PySem.Calls PySem.SeqAt
set_option Elab.async false
set_option maxRecDepth 100000
namespace Mine

/-- a letter stands at x -/
def LetterAt (h : Heap) (x : Addr) (u o : Value) (T : Addr) (i m : Value) : Prop :=
  ∃ dx es n, h.get? x = some (instObj 120 dx) ∧ h.get? dx = some (dictOf es n) ∧ getL (Str.ofString "uid") es = some (some u) ∧ getL (Str.ofString "octets") es = some (some o) ∧ getL (Str.ofString "flags") es = some (some (.ref T)) ∧ getL (Str.ofString "instant") es = some (some i) ∧ getL (Str.ofString "modseq") es = some (some m) ∧ getL (Str.ofString "has") es = some none ∧ getL (Str.ofString "told") es = some none

set_option maxHeartbeats 8000000 in
theorem call_letter (u i m : Int) (tu ti tm tb : Tok) (o : Array UInt8) (T : Addr) (ws : List Value) : Con 120 [.int u tu, .bytes o tb, .ref T, .int i ti, .int m tm] 2 (fun h => h.IsTuple T ws.toArray) (fun g v h => ∃ x, v = .ref x ∧ g.get? x = none ∧ LetterAt h x (.int u tu) (.bytes o tb) T (.int i ti) (.int m tm)) := by
  w_top off
  unfold Con
  k_fill
  intro w mean mg mb dp un fr gd s Q E X TT hT hd hu hret
  obtain ⟨hp, gg, d, t, os⟩ := s
  have hmk : makesIn (Mine.hd.heap_39 w.params) 120 = true := by k_dflt k_is
  have hfi : findIn (Mine.hd.heap_39 w.params) (.ref 120) "__init__" = some (some (.ref 103)) := by k_dflt k_is
  have hfn : typeIn (Mine.hd.heap_39 w.params) (.ref 103) = some (.type "function") := by k_dflt k_is
  refine wpAny_call (make_core (makes_of X hmk) (looks_findIn X hfi) (fun self => bind_fn X self hfn) (.inl rfl) ?_)
  have k0 : Kp hp ((hp.push emptyDict).push (instObj 120 hp.objs.size)) := fun b o e => Heap.get?_push_of_some _ (Heap.get?_push_of_some _ e)
  have hx : ((hp.push emptyDict).push (instObj 120 hp.objs.size)).get? (hp.objs.size + 1) = some (instObj 120 hp.objs.size) := by heap_get
  have hdx : ((hp.push emptyDict).push (instObj 120 hp.objs.size)).get? hp.objs.size = some (dictOf [] 0) := by heap_get
  k_dflt (refine' enterN (s := ⟨(hp.push emptyDict).push (instObj 120 hp.objs.size), gg, d, t, os⟩) [(hp.objs.size + 1, instObj 120 hp.objs.size), (hp.objs.size, dictOf [] 0)] [(Str.ofString "self", .ref (hp.objs.size + 1)), (Str.ofString "uid", .int u tu), (Str.ofString "octets", .bytes o tb), (Str.ofString "flags", .ref T), (Str.ofString "instant", .int i ti), (Str.ofString "modseq", .int m tm)] k0 ?hN X TT ?k6 ?k7 ?k8 ?k9 ?kB ?_ ?c2 ?c3 ?c4 ?c5; (case k6 => k_is); (case k7 => k_is); (case k8 => rw [depth_under_make]; (show dp + 1 < 1000); omega); (case k9 => exact BindsTo.of_eq rfl); (case c5 => decide); (case kB => exact locs rfl); (case c2 => exact rfl); (case c3 => exact rfl); (case c4 => exact rfl))
  · intro p hp'
    simp only [List.mem_cons, List.not_mem_nil, or_false] at hp'
    rcases hp' with rfl | rfl
    · exact ⟨hx, none_of_size (Nat.le_succ _)⟩
    · exact ⟨hdx, none_of_size (Nat.le_refl _)⟩
  intro g h₁ kg X TT F N
  have hT' : g.IsTuple T ws.toArray := hT.at fun o e => kg _ o e
  dsimp only [bm, List.foldl] at F ⊢
  (try k_fold)
  k_steps
  rename Fr _ _ _ _ => F₁
  rename News _ _ _ _ => N₁
  exact ⟨rfl, hret _ _ _ ⟨_, rfl, none_of_size (Nat.le_succ _), _, _, _, (N₁ _ (.head _)).1, (N₁ _ (.tail _ (.head _))).1, rfl, rfl, rfl, rfl, rfl, rfl, rfl⟩ fun b o q => F₁.keep _ _ (kg _ _ q)⟩
end Mine
namespace Mine
theorem LetterAt.keeps {h h' : Heap} {x : Addr} {u o i m : Value} {T : Addr} (l : LetterAt h x u o T i m) (k : Kp h h') : LetterAt h' x u o T i m := by
  obtain ⟨dx, es, n, a, b, r⟩ := l
  exact ⟨dx, es, n, k _ _ a, k _ _ b, r⟩
section
variable {w : World} {A : Around} {E : Value → Shared → Prop} {s : Shared} {h₀ : Heap} {L x T : Addr} {m : Str → Option Value} {u o i mm : Value} {Q : Value → Shared → Prop} {expr : Bool}
theorem letter_flags (F : Fr h₀ L s.heap m) (X : (Mine.hd.heap_39 w.params).In h₀) (hL : LetterAt s.heap x u o T i mm) (h : Q (.ref T) { s with toks := s.toks + 1 }) :
    wpAny (model Challenge.rw_no0350_01.row.prog w) A (getAttr (.ref x) (Str.ofString "flags") expr) Q E s := by
  obtain ⟨dx, es, n, hx, hd, h1, h2, h3, h4, h5, h6, h7⟩ := hL
  have I : InstAt s.heap x (instObj 120 dx) 120 (some (dictOf es n)) := ⟨hx, rfl, rfl, hd⟩
  revert X; k_fill; intro X
  refine get_own F X I ?_ ?_ (attr := none) ?_ ?_ h3 rfl h
  · k_dflt k_is
  · k_dflt k_is
  · k_dflt k_is
  · k_dflt k_is
theorem letter_uid (F : Fr h₀ L s.heap m) (X : (Mine.hd.heap_39 w.params).In h₀) (hL : LetterAt s.heap x u o T i mm) (hu : handedIn u = true) (h : Q u { s with toks := s.toks + 1 }) :
    wpAny (model Challenge.rw_no0350_01.row.prog w) A (getAttr (.ref x) (Str.ofString "uid") expr) Q E s := by
  obtain ⟨dx, es, n, hx, hd, h1, h2, h3, h4, h5, h6, h7⟩ := hL
  have I : InstAt s.heap x (instObj 120 dx) 120 (some (dictOf es n)) := ⟨hx, rfl, rfl, hd⟩
  refine get_own F X I ?_ ?_ (attr := none) ?_ ?_ h1 hu h
  · k_dflt k_is
  · k_dflt k_is
  · k_dflt k_is
  · k_dflt k_is
theorem letter_octets (F : Fr h₀ L s.heap m) (X : (Mine.hd.heap_39 w.params).In h₀) (hL : LetterAt s.heap x u o T i mm) (hu : handedIn o = true) (h : Q o { s with toks := s.toks + 1 }) :
    wpAny (model Challenge.rw_no0350_01.row.prog w) A (getAttr (.ref x) (Str.ofString "octets") expr) Q E s := by
  obtain ⟨dx, es, n, hx, hd, h1, h2, h3, h4, h5, h6, h7⟩ := hL
  have I : InstAt s.heap x (instObj 120 dx) 120 (some (dictOf es n)) := ⟨hx, rfl, rfl, hd⟩
  refine get_own F X I ?_ ?_ (attr := none) ?_ ?_ h2 hu h
  · k_dflt k_is
  · k_dflt k_is
  · k_dflt k_is
  · k_dflt k_is
theorem letter_instant (F : Fr h₀ L s.heap m) (X : (Mine.hd.heap_39 w.params).In h₀) (hL : LetterAt s.heap x u o T i mm) (hu : handedIn i = true) (h : Q i { s with toks := s.toks + 1 }) :
    wpAny (model Challenge.rw_no0350_01.row.prog w) A (getAttr (.ref x) (Str.ofString "instant") expr) Q E s := by
  obtain ⟨dx, es, n, hx, hd, h1, h2, h3, h4, h5, h6, h7⟩ := hL
  have I : InstAt s.heap x (instObj 120 dx) 120 (some (dictOf es n)) := ⟨hx, rfl, rfl, hd⟩
  refine get_own F X I ?_ ?_ (attr := none) ?_ ?_ h4 hu h
  · k_dflt k_is
  · k_dflt k_is
  · k_dflt k_is
  · k_dflt k_is
theorem letter_modseq (F : Fr h₀ L s.heap m) (X : (Mine.hd.heap_39 w.params).In h₀) (hL : LetterAt s.heap x u o T i mm) (hu : handedIn mm = true) (h : Q mm { s with toks := s.toks + 1 }) :
    wpAny (model Challenge.rw_no0350_01.row.prog w) A (getAttr (.ref x) (Str.ofString "modseq") expr) Q E s := by
  obtain ⟨dx, es, n, hx, hd, h1, h2, h3, h4, h5, h6, h7⟩ := hL
  have I : InstAt s.heap x (instObj 120 dx) 120 (some (dictOf es n)) := ⟨hx, rfl, rfl, hd⟩
  refine get_own F X I ?_ ?_ (attr := none) ?_ ?_ h5 hu h
  · k_dflt k_is
  · k_dflt k_is
  · k_dflt k_is
  · k_dflt k_is
theorem letter_method {pl : Sem Bool} {Q : Value × List Value → Shared → Prop} (F : Fr h₀ L s.heap m) (X : (Mine.hd.heap_39 w.params).In h₀) (hL : LetterAt s.heap x u o T i mm) (h : Q (.ref 110, [.ref x]) s) :
    wpAny (model Challenge.rw_no0350_01.row.prog w) A (getMethod (.ref x) (Str.ofString "has") pl) Q E s := by
  obtain ⟨dx, es, n, hx, hd, h1, h2, h3, h4, h5, h6, h7⟩ := hL
  have I : InstAt s.heap x (instObj 120 dx) 120 (some (dictOf es n)) := ⟨hx, rfl, rfl, hd⟩
  refine method_inst F X I ?_ ?_ ?_ h6 h
  · k_dflt k_is
  · k_dflt k_is
  · k_dflt k_is
theorem letter_told {pl : Sem Bool} {Q : Value × List Value → Shared → Prop} (F : Fr h₀ L s.heap m) (X : (Mine.hd.heap_39 w.params).In h₀) (hL : LetterAt s.heap x u o T i mm) (h : Q (.ref 117, [.ref x]) s) :
    wpAny (model Challenge.rw_no0350_01.row.prog w) A (getMethod (.ref x) (Str.ofString "told") pl) Q E s := by
  obtain ⟨dx, es, n, hx, hd, h1, h2, h3, h4, h5, h6, h7⟩ := hL
  have I : InstAt s.heap x (instObj 120 dx) 120 (some (dictOf es n)) := ⟨hx, rfl, rfl, hd⟩
  refine method_inst F X I ?_ ?_ ?_ h7 h
  · k_dflt k_is
  · k_dflt k_is
  · k_dflt k_is
end
end Mine
end
section
open PySem PySem.W PyProof.Rows PyProof.V PySem.Spec PySem.Calls PySem.SeqAt
set_option Elab.async false
set_option maxRecDepth 100000
namespace Mine

section
variable {M : Model} {A : Around} {E : Value → Shared → Prop} {s : Shared} {hb : Heap} {C : Addr} {m : Str → Option Value} {news : List (Addr × Obj)} {scope : Scope} {cl : List (Str × Addr)} {env : Env} {x : Str} {pos : Pos} {v : Value}

theorem c_store {Q : Unit → Shared → Prop} (F : Fr hb C s.heap m) (N : News hb C s.heap news)
    (h : ∀ h', Fr hb C h' (fun y => if y = x then some v else m y) → News hb C h' news → Q () { s with heap := h', toks := s.toks + 1 })
    (hk : scope.kind = .function) (hl : (compEnvC scope cl C env).kindOf x = some .local) :
    wpAny M A (storeName (compEnvC scope cl C env) x v) Q E s :=
  wpAny_storeName_local hl F.ns (fun h' hn hs => h h' (F.set hn hs) (N.set hs)) (by simp [compEnvC, relabel, hk])
theorem c_local {Q : Value → Shared → Prop} (F : Fr hb C s.heap m) (hv : m x = some v) (h : Q v s)
    (hk : (compEnvC scope cl C env).scope.kind = .function) (hl : (compEnvC scope cl C env).kindOf x = some .local) (hd : (x == ("__debug__" : Str)) = false) :
    wpAny M A (eval (.Name x pos) (compEnvC scope cl C env)) Q E s := ldVarK F.ns hv h hk hl hd
theorem c_cell {Q : Value → Shared → Prop} {c : Addr} (F : Fr hb C s.heap m) (hc : cl.lookup x = some c) (hv : hb.IsCell c (some v)) (h : Q v s)
    (hk : (compEnvC scope cl C env).scope.kind = .function) (hl : (compEnvC scope cl C env).kindOf x = some .cell) (hd : (x == ("__debug__" : Str)) = false) :
    wpAny M A (eval (.Name x pos) (compEnvC scope cl C env)) Q E s := ldCellK hc (hv.keeps F.keep) h hk hl hd
end
theorem tests_nil {M : Model} {A : Around} {E : Value → Shared → Prop} {s : Shared} {env : Env} {Q : Bool → Shared → Prop} (h : Q true s) : wpAny M A (tests [] env) Q E s := by
  unfold tests
  rw [List.forIn_nil]
  exact wpAny_pure h
theorem tests_one {M : Model} {A : Around} {E : Value → Shared → Prop} {s : Shared} {env : Env} {c : Expr} {Q : Bool → Shared → Prop} (h : wpAny M A (isTrue c env (eval c env)) Q E s) : wpAny M A (tests [c] env) Q E s := by
  unfold tests
  rw [List.forIn_cons]
  refine wpAny_bind ?_
  rw [if_pos rfl]
  refine wpAny_bind (wpAny_mono h (fun ok s₁ h₁ => wpAny_pure ?_) fun _ _ e => e)
  show wpAny M A (forIn ([] : List Expr) ok _) Q E s₁
  rw [List.forIn_nil]
  exact wpAny_pure h₁
theorem isCell_of {h₀ h : Heap} {L c : Addr} {o : Obj} {v : Option Value} {news : List (Addr × Obj)} (N : News h₀ L h news) (hm : (c, o) ∈ news) (hd : o.data = .cell v) : h.IsCell c v := ⟨o, (N _ hm).1, hd⟩
end Mine
end
section
open PySem PySem.W PyProof.Rows PyProof.V PySem.Spec PySem.Calls PySem.SeqAt
set_option Elab.async false
set_option maxRecDepth 100000
namespace Mine

def afterV (way : Str) (ns fs : List Str) : Option (List Str) :=
  if way = Str.ofString "+" then flagTup (fs ++ ns) else if way = Str.ofString "-" then some (fs.filter fun x => !decide (x ∈ ns)) else if way = Str.ofString "=" then some ns else none
def afterT (way : Str) (ls fs : List Str) : Option (List Str) := (flagTup ls).bind fun ns => afterV way ns fs

local macro_rules | `(tactic| walk_at "exec Raise some none") => `(tactic| (k_here; (refine raise_made rfl ?_)))
local macro_rules | `(tactic| walk_at "eval ListComp") => `(tactic| (k_here; k_dflt (refine comp_go (by rfl) (by decide) (by rfl) (by decide) ?_ (by intro _; rfl))))

local macro_rules | `(tactic| walk_at "storeName") => `(tactic| (k_here; (with_reducible show wpAny _ _ (storeName (compEnvC _ _ _ _) _ _) _ _ _); k_dflt (refine c_store (by k_asm) (by k_asm) ?_ (by rfl) (by rfl)); k_whole; intro h' F' N'))
local macro_rules | `(tactic| walk_at "eval Name") => `(tactic| (k_here; (with_reducible show wpAny _ _ (eval (Expr.Name _ _) (compEnvC _ _ _ _)) _ _ _); k_dflt (first
  | refine c_local (by k_asm) (by rfl) ?_ (by rfl) (by rfl) (by decide)
  | refine c_cell (by k_asm) (by rfl) (by assumption) ?_ (by rfl) (by rfl) (by decide)); k_whole))
theorem len_flagTup {l ns : List Str} (h : flagTup l = some ns) : ns.length ≤ l.length := by
  unfold flagTup at h
  obtain ⟨a, ha, rfl⟩ := Option.map_eq_some_iff.mp h
  rw [(sortS_perm _).length_eq, ← mapM_len ha]
  exact len_dedup a
theorem flagName_len {x y : Str} (h : flagName x = some y) (hx : x.length ≤ 200) : y.length ≤ 200 := by
  unfold flagName at h
  cases hs : sysOf x with
  | some n =>
    rw [hs] at h
    cases h
    exact sys_short _ (List.mem_of_find?_eq_some hs)
  | none =>
    rw [hs] at h
    dsimp only at h
    split at h
    · cases h; exact hx
    · cases h
theorem mapM_all {p q : Str → Prop} (hpq : ∀ x y, p x → flagName x = some y → q y) : ∀ {ls ns : List Str}, ls.mapM flagName = some ns → (∀ x ∈ ls, p x) → ∀ y ∈ ns, q y
  | [], ns, h, _, y, hy => by
    simp only [List.mapM_nil] at h
    cases h; cases hy
  | x :: r, ns, h, hp, y, hy => by
    rw [List.mapM_cons] at h
    cases hx : flagName x with
    | none => rw [hx] at h; cases h
    | some a =>
      rw [hx] at h
      cases hr : r.mapM flagName with
      | none => rw [hr] at h; cases h
      | some b =>
        rw [hr] at h
        cases h
        rcases List.mem_cons.mp hy with rfl | hy
        · exact hpq x _ (hp x (.head _)) hx
        · exact mapM_all hpq hr (fun z hz => hp z (.tail _ hz)) y hy
theorem mem_flagTup {l ns : List Str} (h : flagTup l = some ns) : ∃ a, l.mapM flagName = some a ∧ ∀ z, z ∈ ns ↔ z ∈ a := by
  unfold flagTup at h
  obtain ⟨a, ha, rfl⟩ := Option.map_eq_some_iff.mp h
  exact ⟨a, ha, fun z => by rw [(sortS_perm _).mem_iff, mem_dedup]⟩
theorem short_flagTup {l ns : List Str} (h : flagTup l = some ns) (hl : ∀ x ∈ l, x.length ≤ 200) : ∀ x ∈ ns, x.length ≤ 200 := by
  obtain ⟨a, ha, hm⟩ := mem_flagTup h
  exact fun x hx => mapM_all (p := fun x => x.length ≤ 200) (q := fun x => x.length ≤ 200) (fun x y hp hf => flagName_len hf hp) ha hl x ((hm x).mp hx)

set_option maxHeartbeats 8000000 in
theorem call_after (x : Addr) (u o i m : Value) (T : Addr) (ws : List Value) (fs : List Str) (way : Str) (tw : Tok) (l : Addr) (vs : List Value) (ls : List Str)
    (hW : StrsAre ws fs) (hfl : ∀ x ∈ fs, x.length ≤ 200) (hS : StrsAre vs ls) (hlen : ∀ x ∈ ls, x.length ≤ 200) (hn : fs.length + ls.length < 64) :
    ConX 129 [.ref x, .str way tw, .ref l] 7 (fun h => LetterAt h x u o T i m ∧ h.IsTuple T ws.toArray ∧ SqAt h l vs)
      (fun g v h => ∃ T' ws' fs', v = .ref T' ∧ g.get? T' = none ∧ h.IsTuple T' ws'.toArray ∧ StrsAre ws' fs' ∧ afterT way ls fs = some fs') (afterT way ls fs = none) := by
  w_top off
  unfold ConX
  k_fill
  intro w mean mg mb dp un fr gd B lv s Q E X TT hpre K hd hu hret hrs
  obtain ⟨hL, hT, hl⟩ := hpre
  refine wpAny_call ?_
  k_dflt (refine' enterC (binds := [(Str.ofString "letter", .ref x), (Str.ofString "way", .str way tw), (Str.ofString "flags", .ref l)]) ?k1 ?k2 ?k6 ?k7 ?k8 ?k9 ?kB ?kD ?_ ?c2 ?c3 ?c4; (case k1 => exact X); (case k2 => exact TT); (case k6 => k_is); (case k7 => k_is); (case k8 => (show dp < 1000); omega); (case k9 => exact BindsTo.of_eq rfl); (case kB => exact rfl); (case kD => decide +kernel); (case c2 => exact rfl); (case c3 => exact rfl); (case c4 => exact rfl))
  intro h₁ tk₁ cells F N Y
  k_cells Y
  (try simp only [List.cons_append, List.nil_append] at N)
  (try dsimp only)
  (try k_fold)
  k_steps
  rename Fr _ _ _ _ => F₁
  rename News _ _ _ _ => N₁
  have hlenB : ∀ {ns : List Str}, flagTup ls = some ns → ns.length ≤ ls.length := fun {_} h => len_flagTup h
  refine call_ftup l vs ls hS (by omega) hlen w mean mg mb _ _ _ _ _ _ _ _ _ (X.keeps F₁.keep) (TT.keeps F₁.keep) (hl.keeps F₁.keep) (pushX K F₁ rfl rfl) (by (show dp + 1 + 10 * 5 < 900); omega) (by (show un + 3 + 100 * 5 < 9000); omega) ?_ ?_
  rotate_left
  · rintro hn e h₃ tk₃ fl
    refine leave_flown K F₁ rfl fl fun h' hf => hrs ?_ e h' _ hf
    unfold afterT; rw [hn]; rfl
  rintro v h₂ tk₂ ⟨N', ns', ns, rfl, hN0, hNT, hNS, hF⟩ hk
  have F₂ := F₁.keeps hk
  obtain ⟨dN, nN, slN, N₂⟩ := news_tup F₁ N₁ hk hN0 hNT
  clear N₁ hNT
  k_steps
  · rename Fr _ _ _ _ => F₃
    rename (way == Str.ofString "+") = true => hw
    refine letter_flags F₃ X (hL.keeps F₃.keep) ?_
    (try dsimp only)
    k_steps
    rename Fr _ _ _ _ => F₄
    rename News _ _ _ _ => N₄
    have hl1 := hW.length
    have hl2 := hNS.length
    have hl3 := len_flagTup hF
    refine add_tups F₄ N₄ (hT.at fun o e => F₄.keep _ _ e) (N₄.isTup (.head _)) (by omega) fun r h' F₅ N₅ hr => ?_
    (try dsimp only)
    clear N₄
    k_steps
    have hcat : StrsAre (ws ++ ns') (fs ++ ns) := strsApp hW hNS
    have hcl : ∀ x ∈ fs ++ ns, x.length ≤ 200 := fun x hx => (List.mem_append.mp hx).elim (hfl x) (short_flagTup hF hlen x)
    refine call_ftup r (ws ++ ns') (fs ++ ns) hcat (by rw [List.length_append]; omega) hcl w mean mg mb _ _ _ _ _ _ _ _ _ (X.keeps F₅.keep) (TT.keeps F₅.keep) (.inr hr) (pushX K F₅ rfl rfl) (by (show dp + 1 + 10 * 5 < 900); omega) (by (show un + 3 + 100 * 5 < 9000); omega) ?_ ?_
    · rintro v h₆ tk₆ ⟨R', rs, rf, rfl, hR0, hRT, hRS, hRF⟩ hk₆
      refine hret _ _ _ ⟨R', rs, rf, rfl, Kp.none F₅.keep hR0, hRT, hRS, ?_⟩ fun b o q => hk₆ _ _ (F₅.keep _ _ q)
      unfold afterT afterV
      rw [hF, Option.bind_some, if_pos (eq_of_beq hw)]
      exact hRF
    · rintro hn e h₃ tk₃ fl
      refine leave_flown K F₅ rfl fl fun h' hf => hrs ?_ e h' _ hf
      unfold afterT afterV
      rw [hF, Option.bind_some, if_pos (eq_of_beq hw)]
      exact hn
  · rename Fr _ _ _ _ => F₃
    rename News _ _ _ _ => N₃
    rename (way == Str.ofString "+") = false => hw1
    rename (way == Str.ofString "-") = true => hw
    refine letter_flags F₃ X (hL.keeps F₃.keep) ?_
    (try dsimp only)
    have hT3 := hT.at fun o e => F₃.keep _ _ e
    rename _ = Data.cell (some (Value.ref N')) => hcd
    have hcell := isCell_of N₃ (.tail _ (.head _)) hcd
    refine wpAny_mono (it_tuple rfl hT3) (fun it s₂ G => ⟨_, _, _, _, fun i ys => StrsAre ys ((fs.take i).filter fun x => !decide (x ∈ ns)) ∧ ys.length ≤ i, G, ?_, fun i ys h => h.2, ⟨.nil, Nat.le_refl _⟩, ?_, ?_⟩) (fun _ _ e => e)
    · have h1 := hW.length
      rw [List.size_toArray, sizeLine_eq]; omega
    · rintro i v C m₁ h tk own ys E' hi hP ⟨hJ, hJl⟩ F N
      obtain ⟨y, ty, rfl, hy⟩ := hW.item i v (by simpa using hP)
      k_steps
      rename Fr _ _ _ _ => F'
      rename News _ _ _ _ => N'
      refine notIn_strs (vs := ns') (.inr ?_) hNS ?_
      · exact Heap.IsTuple.at (N₃.isTup (.head _)) fun o e => F'.keep _ _ e
      have hJ' : (fs.take (i + 1)).filter (fun x => !decide (x ∈ ns)) = (fs.take i).filter (fun x => !decide (x ∈ ns)) ++ [y].filter (fun x => !decide (x ∈ ns)) := by
        rw [List.take_add_one, hy, List.filter_append]; rfl
      generalize hq : (!decide (y ∈ ns)) = q
      cases q
      · k_steps
        refine CE.fin (by assumption) (by assumption) ⟨?_, by omega⟩
        rw [hJ', List.filter_cons, hq]
        simpa using hJ
      · k_steps
        refine CE.fin (by assumption) (by assumption) ⟨?_, by simp; omega⟩
        rw [hJ', List.filter_cons, hq]
        exact strs_snoc hJ y ty
    · rintro D ys h tk ⟨hJ, hJl⟩ hD0 hD hk₄
      k_steps
      have h1 := hW.length
      have hys : ys.toArray.size ≤ sizeLine := by rw [List.size_toArray, sizeLine_eq]; rw [List.size_toArray] at hJl; omega
      refine call_tuple_list (hsz := hys) (items := ys.toArray) ⟨_, hD, rfl, _, rfl⟩ fun h₆ hk₆ => ?_
      have kk : Kp s.heap h₆ := fun b o q => hk₆ _ _ (hk₄ _ _ (F₃.keep _ _ q))
      refine hret _ _ _ ⟨_, ys, _, rfl, Kp.none kk (none_of_size (Nat.le_refl _)), ⟨_, Heap.get?_push_size _ rfl, rfl, _, rfl⟩, hJ, ?_⟩ fun b o q => Heap.get?_push_of_some _ (kk _ _ q)
      unfold afterT afterV
      rw [hF, Option.bind_some, if_neg (fun e => by rw [e] at hw1; simp at hw1), if_pos (eq_of_beq hw), List.take_of_length_le (by rw [List.size_toArray, h1]; exact Nat.le_refl _)]
  · rename Fr _ _ _ _ => F₃
    rename News _ _ _ _ => N₃
    rename (way == Str.ofString "+") = false => hw1
    rename (way == Str.ofString "-") = false => hw2
    rename (way == Str.ofString "=") = true => hw
    dsimp only
    refine hret _ _ _ ⟨N', ns', ns, rfl, (N₃ _ (.head _)).2.2, N₃.isTup (.head _), hNS, ?_⟩ F₃.keep
    unfold afterT afterV
    rw [hF, Option.bind_some, if_neg (fun e => by rw [e] at hw1; simp at hw1), if_neg (fun e => by rw [e] at hw2; simp at hw2), if_pos (eq_of_beq hw)]
  · rename Fr _ _ _ _ => F₃
    rename News _ _ _ _ => N₃
    rename (way == Str.ofString "+") = false => hw1
    rename (way == Str.ofString "-") = false => hw2
    rename (way == Str.ofString "=") = false => hw3
    refine call_store _ _ w mean mg mb _ _ _ _ _ _ _ (X.keeps F₃.keep) (TT.keeps F₃.keep) trivial (by (show dp + 1 + 10 * 2 < 900); omega) (by (show un + 3 + 100 * 2 < 9000); omega) ?_
    rintro v h₅ tk₅ ⟨e, rfl, hm⟩ hk₅
    refine ⟨e, _, rfl, hm, (X.keeps F₃.keep).keeps hk₅, ?_⟩
    refine leave_made K F₃ rfl rfl hm.made fun h' hf => hrs ?_ e h' _ hf
    unfold afterT afterV
    rw [hF, Option.bind_some, if_neg (fun e => by rw [e] at hw1; simp at hw1), if_neg (fun e => by rw [e] at hw2; simp at hw2), if_neg (fun e => by rw [e] at hw3; simp at hw3)]
end Mine
end
section
open PySem PySem.W PyProof.Rows PyProof.V PySem.Spec PySem.Calls PySem.SeqAt
set_option Elab.async false
set_option maxRecDepth 100000
namespace Mine

local macro_rules | `(tactic| walk_at "exec For Name Call cons nil") => `(tactic| (k_here; (rename Fr _ _ _ _ => lF'); (with_unfolding_all refine' For_turns lF' ?_; k_whole)))
local macro_rules | `(tactic| walk_at "exec For Name Name cons nil") => `(tactic| (k_here; (rename Fr _ _ _ _ => lF'); (with_unfolding_all refine' For_turns lF' ?_; k_whole)))

/-- what the law says is due -/
def dueS (x : Str) : Str := (flagName x).getD (Str.ofString "")
theorem dueS_some {x y : Str} (h : flagName x = some y) : dueS x = y := by unfold dueS; rw [h]; rfl
theorem dueS_none {x : Str} (h : flagName x = none) : dueS x = Str.ofString "" := by unfold dueS; rw [h]; rfl

abbrev barL2 : List Nat := [40, 41, 123, 37, 42, 34, 92, 93, 32]
theorem barred2_cps : (Str.ofString "(){%*\"\\] ").cps.toList = barL2 := by decide +kernel
theorem bar_same (c : Nat) : barL2.contains c = barL.contains c := by
  rw [Bool.eq_iff_iff, List.contains_iff_mem, List.contains_iff_mem]
  simp only [List.mem_cons, List.not_mem_nil, or_false]
  omega
theorem barred2_occ (c : Nat) : (Builtin.Str.occurrences (Str.ofString "(){%*\"\\] ") { cps := #[c] } 0 (Str.ofString "(){%*\"\\] ").length 1).isEmpty = !barL.contains c := by
  have := StrLaws.found_one (Str.ofString "(){%*\"\\] ") c
  rw [barred2_cps] at this
  rw [← Bool.not_not (List.isEmpty _), this, ← bar_same]
  simp

theorem sys_lits : sysL = [Str.ofString "\\Seen", Str.ofString "\\Answered", Str.ofString "\\Flagged", Str.ofString "\\Deleted", Str.ofString "\\Draft"] := by decide +kernel
theorem low1 : Txt.lower (Str.ofString "\\Seen") = Str.ofString "\\seen" := by decide +kernel
theorem low2 : Txt.lower (Str.ofString "\\Answered") = Str.ofString "\\answered" := by decide +kernel
theorem low3 : Txt.lower (Str.ofString "\\Flagged") = Str.ofString "\\flagged" := by decide +kernel
theorem low4 : Txt.lower (Str.ofString "\\Deleted") = Str.ofString "\\deleted" := by decide +kernel
theorem low5 : Txt.lower (Str.ofString "\\Draft") = Str.ofString "\\draft" := by decide +kernel
theorem sysOf_eq (x : Str) : sysOf x = if (Str.ofString "\\seen" == Txt.lower x) = true then some (Str.ofString "\\Seen") else if (Str.ofString "\\answered" == Txt.lower x) = true then some (Str.ofString "\\Answered") else
    if (Str.ofString "\\flagged" == Txt.lower x) = true then some (Str.ofString "\\Flagged") else if (Str.ofString "\\deleted" == Txt.lower x) = true then some (Str.ofString "\\Deleted") else if (Str.ofString "\\draft" == Txt.lower x) = true then some (Str.ofString "\\Draft") else none := by
  have flip : ∀ a : Str, decide (Txt.lower x = a) = (a == Txt.lower x) := fun a => by
    rw [Bool.eq_iff_iff, decide_eq_true_iff, beq_iff_eq]
    exact eq_comm
  unfold sysOf
  rw [sys_lits]
  simp only [List.find?_cons, List.find?_nil, low1, low2, low3, low4, low5, flip]
  cases (Str.ofString "\\seen" == Txt.lower x) <;> cases (Str.ofString "\\answered" == Txt.lower x) <;> cases (Str.ofString "\\flagged" == Txt.lower x) <;> cases (Str.ofString "\\deleted" == Txt.lower x) <;> cases (Str.ofString "\\draft" == Txt.lower x) <;> rfl

set_option maxHeartbeats 8000000 in
theorem call_due (x : Str) (tx : Tok) (hx : x.length ≤ 200) : Con 141 [.str x tx] 2 (fun _ => True) (fun _ v _ => ∃ t, v = .str (dueS x) t) := by
  w_top off
  unfold Con
  k_fill
  intro w mean mg mb dp un fr gd s Q E X T _ hd hu hret
  refine wpAny_call ?_
  k_dflt (refine' enter0 [(Str.ofString "text", .str x tx)] ?k1 ?k2 ?k6 ?k7 ?k8 ?k9 ?kB ?_ ?c2 ?c3 ?c4 ?c5; (case k1 => exact X); (case k2 => exact T); (case k6 => k_is); (case k7 => k_is); (case k8 => (show dp < 1000); omega); (case k9 => exact BindsTo.of_eq rfl); (case c5 => decide); (case kB => exact locs rfl); (case c2 => exact rfl); (case c3 => exact rfl); (case c4 => exact rfl))
  intro h₁ F N
  dsimp only [bm, List.foldl] at F ⊢
  (try k_fold)
  k_steps
  · rename Fr _ _ _ _ => F
    have hdu : dueS x = Str.ofString "\\Seen" := dueS_some (flagName_sys (by rw [sysOf_eq]; simp only [*]; rfl))
    exact hret _ _ _ ⟨_, congrArg (fun z => Value.str z _) hdu.symm⟩ F.keep
  · rename Fr _ _ _ _ => F
    have hdu : dueS x = Str.ofString "\\Answered" := dueS_some (flagName_sys (by rw [sysOf_eq]; simp only [*]; rfl))
    exact hret _ _ _ ⟨_, congrArg (fun z => Value.str z _) hdu.symm⟩ F.keep
  · rename Fr _ _ _ _ => F
    have hdu : dueS x = Str.ofString "\\Flagged" := dueS_some (flagName_sys (by rw [sysOf_eq]; simp only [*]; rfl))
    exact hret _ _ _ ⟨_, congrArg (fun z => Value.str z _) hdu.symm⟩ F.keep
  · rename Fr _ _ _ _ => F
    have hdu : dueS x = Str.ofString "\\Deleted" := dueS_some (flagName_sys (by rw [sysOf_eq]; simp only [*]; rfl))
    exact hret _ _ _ ⟨_, congrArg (fun z => Value.str z _) hdu.symm⟩ F.keep
  · rename Fr _ _ _ _ => F
    have hdu : dueS x = Str.ofString "\\Draft" := dueS_some (flagName_sys (by rw [sysOf_eq]; simp only [*]; rfl))
    exact hret _ _ _ ⟨_, congrArg (fun z => Value.str z _) hdu.symm⟩ F.keep
  · rename Fr _ _ _ _ => F
    rename (x.length : Int) ≤ 60 => hl
    rename 1 ≤ (x.length : Int) => hs
    have hsys : sysOf x = none := by rw [sysOf_eq]; simp only [*]; rfl
    simp only [upd_upd] at F
    obtain ⟨u0, F⟩ : ∃ u0, Fr _ _ _ (fun y => if y = Str.ofString "name" then u0 else if y = Str.ofString "text" then some (.str x tx) else none) := ⟨_, F⟩
    refine wpAny_mono (it_str rfl) (fun it s₂ G => for_go (mt := []) (fx := []) (fun i m mt => mt = [] ∧ (∃ u u', m = fun y => if y = Str.ofString "sign" then u else if y = Str.ofString "name" then u' else if y = Str.ofString "text" then some (.str x tx) else none) ∧ (∀ c ∈ x.cps.toList.take i, okCp c = true)) G F News.nil (fun b hb => nomatch hb) ⟨rfl, ⟨none, u0, ?_⟩, by simp⟩ ?_ ?_) (fun _ _ e => e)
    · funext y
      by_cases e : y = Str.ofString "sign"
      · subst e; rfl
      · rw [if_neg e]
    · rintro i v m₁ mt₁ h tk own hi ⟨c, u, hc, rfl⟩ ha hoff ⟨rfl, ⟨u', u'', rfl⟩, hJ⟩ F₁ N₁
      have bad : okCp c = false → dueS x = Str.ofString "" := fun h => dueS_none (flagName_no hsys (isKw_bad hc h))
      k_steps
      · dsimp only
        exact hret _ _ _ ⟨_, congrArg (fun z => Value.str z _) (bad (okCp_no1 (by omega))).symm⟩ (Fr.keep (by assumption))
      · dsimp only
        exact hret _ _ _ ⟨_, congrArg (fun z => Value.str z _) (bad (okCp_no2 (by omega))).symm⟩ (Fr.keep (by assumption))
      · refine TEnd.next (mt' := []) (.inl rfl) (by assumption) (by assumption) (fun p hp => hp) rfl ⟨rfl, ⟨_, _, upd_upd⟩, take_snoc hc hJ (okCp_yes (by omega) (by omega) ?_)⟩
        rw [← barred2_occ]; assumption
      · dsimp only
        exact hret _ _ _ ⟨_, congrArg (fun z => Value.str z _) (bad (okCp_no3 (by rw [← barred2_occ]; assumption))).symm⟩ (Fr.keep (by assumption))
    · rintro m₁ mt₁ h tk ⟨rfl, ⟨u', u'', rfl⟩, hJ⟩ F₁ N₁
      (try dsimp only)
      k_steps
      dsimp only
      exact hret _ _ _ ⟨_, congrArg (fun z => Value.str z _) (dueS_some (flagName_kw hsys (isKw_true hs hl hJ))).symm⟩ F₁.keep
  · dsimp only
    rename ¬ (x.length : Int) ≤ 60 => hl
    have hsys : sysOf x = none := by rw [sysOf_eq]; simp only [*]; rfl
    exact hret _ _ _ ⟨_, congrArg (fun z => Value.str z _) (dueS_none (flagName_no hsys (isKw_long hl))).symm⟩ (Fr.keep (by assumption))
  · dsimp only
    rename ¬ 1 ≤ (x.length : Int) => hl
    have hsys : sysOf x = none := by rw [sysOf_eq]; simp only [*]; rfl
    exact hret _ _ _ ⟨_, congrArg (fun z => Value.str z _) (dueS_none (flagName_no hsys (isKw_short hl))).symm⟩ (Fr.keep (by assumption))
end Mine
end
section
open PySem PySem.W PyProof.Rows PyProof.V PySem.Spec PySem.Calls PySem.SeqAt
set_option Elab.async false
set_option maxRecDepth 100000
namespace Mine

/-- the law's question whether a way refuses -/
def refusesS (way : Str) (ls : List Str) : Prop :=
  if way = Str.ofString "name" then ∃ x r, ls = x :: r ∧ flagName x = none else if way = Str.ofString "row" then flagTup ls = none else if way = Str.ofString "same" then ∃ x r, ls = x :: r ∧ flagName x = none else afterT way ls [] = none

/-- the frames l and the heap below them -/
abbrev under (g : Heap) (l : List Env) : Heap := hideAll g (l.filterMap (·.frame))
theorem below_under {A : Around} {B g : Heap} {l : List Env} (K : Below A B l g) : Below A (under g l) l g :=
  ⟨K.stack, fun b o e => of_hideAll _ e, funFrames_hide K.frames fun env he a ha => List.mem_filterMap.mpr ⟨env, he, ha⟩⟩
theorem stays_under {A : Around} {B g : Heap} {l : List Env} (K : Below A B l g) : Kp B (under g l) := fun b o q => hideAll_get _ (K.stays b o q) fun hm => by
  rw [(K.frames.mem hm).1] at q; cases q
theorem under_size {g : Heap} {l : List Env} : (under g l).objs.size = g.objs.size := hideAll_size _ _
theorem fr_under {g h : Heap} {l : List Env} {L : Addr} {m : Str → Option Value} (F : Fr g L h m) : Fr (under g l) L h m := ⟨F.ns, fun b o e => F.keep b o (of_hideAll _ e), by rw [under_size]; exact F.above⟩

/-- a call after which the frames are as they were, but for what a raise leaves on them -/
def ConR (f : Addr) (vs : List Value) (k : Nat) (Pre : Heap → Prop) (V : Value → Prop) : Prop :=
  ∀ (w : World) (mean : ExcName → Option Value) (mg mb : Str → Option Value) (dp un : Nat) (fr : Option (List Env)) (gd : Option (List Code)) (B : Heap) (l : List Env) (s : Shared) (Q E : Value → Shared → Prop),
   (Mine.hd.heap_39 w.params).In B → Top Mine.hd.view_39 (looseW Mine.hd.view_39 [Str.ofString "PostError"]) mean mg mb B → Pre s.heap → Below (Ar dp un fr gd) B l s.heap →
   dp + 10 * k < 900 → un + 100 * k < 9000 →
   (∀ v h' tk, V v → (under s.heap l).StaysIn h' → s.heap.UpToSlots h' → Q v { s with heap := h', toks := tk }) →
   wpAny (model Challenge.rw_no0350_01.row.prog w) (Ar dp un fr gd) (call (.ref f) vs) Q E s

section
variable {w : World} {A₀ : Around} {E : Value → Shared → Prop} {s' : Shared} {B h : Heap} {lv : List Env} {L a e : Addr} {m : Str → Option Value} {name : Str} {scope : Scope} {cd : Value} {b₀ : Stmt} {suite : List Stmt} {pos np : Pos} {rest : List ExceptHandler} {Q : Flow → Shared → Prop}
  {mean : ExcName → Option Value} {mg mb : Str → Option Value}
theorem caught_F (hst : A₀.frames = some lv) (F : Fr B L h m) (R : Flown B (envOf name scope L a cd :: lv) h e s'.heap) (X : (Mine.hd.heap_39 w.params).In B) (T : Top Mine.hd.view_39 (looseW Mine.hd.view_39 [Str.ofString "PostError"]) mean mg mb B)
    (ex : nsIn (Mine.hd.heap_39 w.params) mainGlobals (Str.ofString "StoreFault") = some (some (.ref 52)))
    (k : ∀ h', Fr B L h' m → h.UpToSlots h' → wpAny (model Challenge.rw_no0350_01.row.prog w) ((A₀.deeper (envOf name scope L a cd)).mark (some (.ref e))) (execs (b₀ :: suite) (envOf name scope L a cd)) Q E { s' with heap := h' })
    (hk : scope.kind = .function) (hx : (envOf name scope L a cd).kindOf (Str.ofString "StoreFault") = some .globalImplicit)
    (hE : PassesOwnAt (model Challenge.rw_no0350_01.row.prog w) ((A₀.deeper (envOf name scope L a cd)).mark (some (.ref e))) (A₀.deeper (envOf name scope L a cd)) (envOf name scope L a cd) E) :
    wpAny (model Challenge.rw_no0350_01.row.prog w) (A₀.deeper (envOf name scope L a cd)) (noteFrame (.ref e) (envOf name scope L a cd))
      (fun _ s₂ => wpAny (model Challenge.rw_no0350_01.row.prog w) (A₀.deeper (envOf name scope L a cd)) (setFlight (.ref e) none) (fun _ s₃ =>
        wpAny (model Challenge.rw_no0350_01.row.prog w) (A₀.deeper (envOf name scope L a cd)) (handleBy (.ref e) (envOf name scope L a cd) (.ExceptHandler (some (.Name (Str.ofString "StoreFault") np)) none (b₀ :: suite) pos :: rest)) Q E s₃) E s₂) E s' := by
  obtain ⟨⟨a0, hfl⟩, hsm⟩ := R
  refine wpAny_looks_onW (Around.frames_deeper hst) rfl hfl fun h₄ hheld₄ hsm₄ => ?_
  refine wpAny_landsW hheld₄ fun h₅ hheld hsm₅' => ?_
  have hsm₅ := hsm₄.trans hsm₅'
  have F₅ := F.of_stays hheld.1 (hsm.trans hsm₅)
  obtain ⟨ob, hob, hobc⟩ := hheld.there
  refine wpAny_handleBy_cons (codeAny_handlers_test (name_K F₅ X (topRead_of T) ex ?_ hk hx (by decide))) (by intro q; cases q)
  obtain ⟨nm, q, hdct, sn, sub, ab, col, dd, k0, k1, k2, k3, k5, hC⟩ := cls52 (X.keeps F₅.keep)
  refine wpAny_excMatches_sub_self hC hob hobc (by decide) (codeAny_handlers_suite ?_)
  refine lands_againW hheld fun h₆ hfl₆ hsm₆ => ?_
  exact wpAny_passesOwnAt hE (k h₆ (F.of_stays hfl₆.1 ((hsm.trans hsm₅).trans hsm₆)) ((hsm.trans hsm₅).trans hsm₆))
end

set_option maxHeartbeats 8000000 in
theorem call_refuses (l : Addr) (vs : List Value) (ls : List Str) (way : Str) (tw : Tok) (hS : StrsAre vs ls) (hn : ls.length < 64) (hlen : ∀ x ∈ ls, x.length ≤ 200) (hr : refusesS way ls) :
    ConR 148 [.ref l, .str way tw] 9 (fun h => h.IsList l vs.toArray) (fun v => v = .bool true) := by
  w_top off
  unfold ConR
  k_fill
  intro w mean mg mb dp un fr gd B lv s Q E XB TB hl KB hd hu hret
  have K := below_under KB
  have Xu := XB.keeps (stays_under KB)
  have Tu := TB.keeps (stays_under KB)
  have X := XB.keeps KB.stays
  have T := TB.keeps KB.stays
  refine wpAny_call ?_
  k_dflt (refine' enter0 [(Str.ofString "texts", .ref l), (Str.ofString "way", .str way tw)] ?k1 ?k2 ?k6 ?k7 ?k8 ?k9 ?kB ?_ ?c2 ?c3 ?c4 ?c5; (case k1 => exact X); (case k2 => exact T); (case k6 => k_is); (case k7 => k_is); (case k8 => (show dp < 1000); omega); (case k9 => exact BindsTo.of_eq rfl); (case c5 => decide); (case kB => exact locs rfl); (case c2 => exact rfl); (case c3 => exact rfl); (case c4 => exact rfl))
  intro h₁ F N
  dsimp only [bm, List.foldl] at F ⊢
  (try k_fold)
  k_steps
  · rename (way == Str.ofString "name") = true => hw
    obtain rfl := eq_of_beq hw
    unfold refusesS at hr
    rw [if_pos rfl] at hr
    obtain ⟨x, r, rfl, hx⟩ := hr
    obtain ⟨t, vs', rfl, hS'⟩ := hS.cons_inv
    refine item_litK (hl.at fun o e => F.keep _ _ e) (by decide) (by decide) rfl ?_ (by with_unfolding_all rfl)
    (try dsimp only)
    k_steps
    refine call_flagName x t (hlen x (.head _)) w mean mg mb _ _ _ _ _ _ _ _ _ (X.keeps F.keep) (T.keeps F.keep) trivial (pushX K F rfl rfl) (by (show dp + 1 + 10 * 3 < 900); omega) (by (show un + 3 + 100 * 3 < 9000); omega) ?_ ?_
    · rintro v h₂ tk₂ ⟨y, ty, rfl, hy⟩ hk
      rw [hx] at hy; cases hy
    · rintro _ e h₃ tk₃ fl
      refine caught_F K.stack (fr_under F) fl Xu Tu ?_ (fun h' F' hup => ?_) rfl rfl ?_
      · k_dflt k_is
      · k_steps
        dsimp only
        exact hret _ _ _ rfl F'.keep ((Heap.UpToSlots.of_keeps F.keep).trans hup)
      · passes_own
  · rename (way == Str.ofString "name") = false => hw1
    rename (way == Str.ofString "row") = true => hw
    obtain rfl := eq_of_beq hw
    unfold refusesS at hr
    rw [if_neg (by decide), if_pos rfl] at hr
    refine call_ftup l vs ls hS hn hlen w mean mg mb _ _ _ _ _ _ _ _ _ (X.keeps F.keep) (T.keeps F.keep) (.inl (hl.at fun o e => F.keep _ _ e)) (pushX K F rfl rfl) (by (show dp + 1 + 10 * 5 < 900); omega) (by (show un + 3 + 100 * 5 < 9000); omega) ?_ ?_
    · rintro v h₂ tk₂ ⟨T', ws, fs, rfl, _, _, _, hf⟩ hk
      rw [hr] at hf; cases hf
    · rintro _ e h₃ tk₃ fl
      refine caught_F K.stack (fr_under F) fl Xu Tu ?_ (fun h' F' hup => ?_) rfl rfl ?_
      · k_dflt k_is
      · k_steps
        dsimp only
        exact hret _ _ _ rfl F'.keep ((Heap.UpToSlots.of_keeps F.keep).trans hup)
      · passes_own
  · rename (way == Str.ofString "name") = false => hw1
    rename (way == Str.ofString "row") = false => hw2
    rename (way == Str.ofString "same") = true => hw
    obtain rfl := eq_of_beq hw
    unfold refusesS at hr
    rw [if_neg (by decide), if_neg (by decide), if_pos rfl] at hr
    obtain ⟨x, r, rfl, hx⟩ := hr
    obtain ⟨t, vs', rfl, hS'⟩ := hS.cons_inv
    refine item_litK (hl.at fun o e => F.keep _ _ e) (by decide) (by decide) rfl ?_ (by with_unfolding_all rfl)
    (try dsimp only)
    k_steps
    refine call_same _ x _ t (by decide) (hlen x (.head _)) w mean mg mb _ _ _ _ _ _ _ _ _ (X.keeps F.keep) (T.keeps F.keep) trivial (pushX K F rfl rfl) (by (show dp + 1 + 10 * 4 < 900); omega) (by (show un + 3 + 100 * 4 < 9000); omega) ?_ ?_
    · rintro v h₂ tk₂ ⟨y, z, rfl, hy, hz⟩ hk
      rw [hx] at hz; cases hz
    · rintro _ e h₃ tk₃ fl
      refine caught_F K.stack (fr_under F) fl Xu Tu ?_ (fun h' F' hup => ?_) rfl rfl ?_
      · k_dflt k_is
      · k_steps
        dsimp only
        exact hret _ _ _ rfl F'.keep ((Heap.UpToSlots.of_keeps F.keep).trans hup)
      · passes_own
  · rename (way == Str.ofString "name") = false => hw1
    rename (way == Str.ofString "row") = false => hw2
    rename (way == Str.ofString "same") = false => hw3
    unfold refusesS at hr
    rw [if_neg (fun e => by rw [e] at hw1; simp at hw1), if_neg (fun e => by rw [e] at hw2; simp at hw2), if_neg (fun e => by rw [e] at hw3; simp at hw3)] at hr
    rename Fr _ _ _ _ => F₃
    rename News _ _ _ _ => N₃
    refine call_letter 1 0 2 _ _ _ _ _ _ [] w mean mg mb _ _ _ _ _ _ _ (X.keeps F₃.keep) (T.keeps F₃.keep) (N₃.isTup (.head _)) (by (show dp + 1 + 10 * 2 < 900); omega) (by (show un + 3 + 100 * 2 < 9000); omega) ?_
    rintro v h₄ tk₄ ⟨x, rfl, hx0, hxL⟩ hk₄
    have F₄ := F₃.keeps hk₄
    have N₄ : News s.heap s.heap.objs.size h₄ [] := News.nil
    have hT := Heap.IsTuple.at (N₃.isTup (.head _)) fun o e => hk₄ _ _ e
    (try dsimp only)
    clear N₃
    k_steps
    refine call_after x _ _ _ _ _ [] [] way tw l vs ls .nil (fun _ h => nomatch h) hS hlen (by simpa using hn) w mean mg mb _ _ _ _ _ _ _ _ _ (X.keeps F₄.keep) (T.keeps F₄.keep) ⟨hxL, hT, .inl (hl.at fun o e => F₄.keep _ _ e)⟩ (pushX K F₄ rfl rfl) (by (show dp + 1 + 10 * 7 < 900); omega) (by (show un + 3 + 100 * 7 < 9000); omega) ?_ ?_
    · rintro v h₂ tk₂ ⟨T', ws, fs, rfl, _, _, _, hf⟩ hk
      rw [hr] at hf; cases hf
    · rintro _ e h₃ tk₃ fl
      refine caught_F K.stack (fr_under F₄) fl Xu Tu ?_ (fun h' F' hup => ?_) rfl rfl ?_
      · k_dflt k_is
      · k_steps
        dsimp only
        exact hret _ _ _ rfl F'.keep ((Heap.UpToSlots.of_keeps F₄.keep).trans hup)
      · passes_own
end Mine
end
section
open PySem PySem.W PyProof.Rows PyProof.V PySem.Spec PySem.Calls PySem.SeqAt
set_option Elab.async false
set_option maxRecDepth 100000
namespace Mine

section
variable {prog : Program} {w : World} {A : Around} {E : Value → Shared → Prop} {s : Shared} {elts : List Expr} {k : Nat} {pos : Pos}

abbrev EnumSP (y : Str) (i : Nat) (v : Value) (h : Heap) : Prop := ∃ T vals, v = .ref T ∧ (∃ t x, SignAt y i x ∧ vals = #[.int i t, x]) ∧ h.IsTuple T vals
abbrev EnumP (xs : Array Value) (i : Nat) (v : Value) (h : Heap) : Prop := ∃ T vals, v = .ref T ∧ (∃ t x, xs[i]? = some x ∧ vals = #[.int i t, x]) ∧ h.IsTuple T vals
abbrev ZipP (xs ys : Array Value) (i : Nat) (v : Value) (h : Heap) : Prop := ∃ T vals, v = .ref T ∧ (∃ x y, xs[i]? = some x ∧ ys[i]? = some y ∧ vals = #[x, y]) ∧ h.IsTuple T vals

theorem via_enum_str {y : Str} {t : Tok} {Post : Shared → Value → Shared → Prop} (target : Expr) (ht : target = .Tuple elts k pos) (hh : A.handled = none)
    (h : ∀ h₁ it s₂, GoIt prog w A target s.heap { s with heap := h₁ } y.cps.size (EnumSP y) [] it s₂ → Post { s with heap := h₁ } it s₂) :
    wpAny (model prog w) A (call (.type "enumerate") [.str y t]) (fun xv s₁ => wpAny (model prog w) A (pyIter xv) (Post s₁) E s₁) E s := by
  subst ht
  refine call_enumerate_str fun h' hE hI hsz hk => ?_
  refine wpAny_mono (Q := GoIt prog w A (.Tuple elts k pos) s.heap { s with heap := h' } y.cps.size (EnumSP y) []) ?_ (fun it s₂ G => h h' it s₂ G) fun _ _ e => e
  refine wpAny_pyIter_enum hE ?_
  have W := (WalksT.enumerateD (draws_str (prog := prog) (w := w) (A := A.in1) hh s.heap.objs.size y t) (s.heap.objs.size + 1) (Nat.succ_ne_self _) (by simp) (by simp)).toU
  have W' := KTurns.ofWalksU (elts := elts) (k := k) (pos := pos) W
  refine ⟨_, _, _, _, _, h', rfl, rfl, W', ⟨⟨_, hE⟩, hI⟩, hk, by rw [hsz]; exact Nat.le_add_right _ _, ?_, ?_, ?_, fun s Q E st h => W.self 0 s Q E st h⟩
  · intro b hb
    simp only [List.mem_cons, List.not_mem_nil, or_false] at hb
    exact none_of_size (by rcases hb with rfl | rfl <;> (first | exact Nat.le_refl _ | exact Nat.le_add_right _ _))
  · intro b hb
    rw [hsz]
    simp only [List.mem_cons, List.not_mem_nil, or_false] at hb
    rcases hb with rfl | rfl <;> (try dsimp only [Addr] at *) <;> omega
  · intro b hb
    simp only [List.mem_cons, List.not_mem_nil, or_false] at hb
    rcases hb with rfl | rfl
    · exact .inl (none_of_size (Nat.le_add_right _ _))
    · exact .inl (none_of_size (Nat.le_refl _))

theorem via_enum {l : Addr} {xs : Array Value} {Post : Shared → Value → Shared → Prop} (target : Expr) (ht : target = .Tuple elts k pos) (hh : A.handled = none) (hl : s.heap.IsList l xs)
    (h : ∀ h₁ it s₂, GoIt prog w A target s.heap { s with heap := h₁ } xs.size (EnumP xs) [l] it s₂ → Post { s with heap := h₁ } it s₂) :
    wpAny (model prog w) A (call (.type "enumerate") [.ref l]) (fun xv s₁ => wpAny (model prog w) A (pyIter xv) (Post s₁) E s₁) E s := by
  subst ht
  have hlt : l < s.heap.objs.size := by obtain ⟨o, ho, _⟩ := hl; exact Heap.lt_size ho
  refine call_enumerate_list hl fun h' hE hI hsz hk => ?_
  refine wpAny_mono (Q := GoIt prog w A (.Tuple elts k pos) s.heap { s with heap := h' } xs.size (EnumP xs) [l]) ?_ (fun it s₂ G => h h' it s₂ G) fun _ _ e => e
  refine wpAny_pyIter_enum hE ?_
  have W := (WalksT.enumerate (prog := prog) (w := w) hh (s.heap.objs.size + 1) s.heap.objs.size l (Nat.succ_ne_self _) (ktu_ne 1 hlt) (Nat.ne_of_lt hlt) xs).toU
  have W' := KTurns.ofWalksU (elts := elts) (k := k) (pos := pos) W
  refine ⟨_, _, _, _, _, h', rfl, rfl, W', ⟨⟨_, hE⟩, hI, hl.at fun o e => hk _ o e⟩, hk, by rw [hsz]; exact Nat.le_add_right _ _, ?_, ?_, ?_, fun s Q E st h => W.self 0 s Q E st h⟩
  · intro b hb
    simp only [List.mem_cons, List.not_mem_nil, or_false] at hb
    exact none_of_size (by rcases hb with rfl | rfl <;> (first | exact Nat.le_refl _ | exact Nat.le_add_right _ _))
  · intro b hb
    rw [hsz]
    simp only [List.mem_cons, List.not_mem_nil, or_false] at hb
    rcases hb with rfl | rfl | rfl <;> (try dsimp only [Addr] at *) <;> omega
  · intro b hb
    simp only [List.mem_cons, List.not_mem_nil, or_false] at hb
    rcases hb with rfl | rfl | rfl
    · exact .inl (none_of_size (Nat.le_add_right _ _))
    · exact .inl (none_of_size (Nat.le_refl _))
    · exact .inr (.head _)

theorem via_zip {l1 l2 : Addr} {xs ys : Array Value} {Post : Shared → Value → Shared → Prop} (target : Expr) (ht : target = .Tuple elts k pos) (hh : A.handled = none) (hl1 : s.heap.IsList l1 xs) (hl2 : s.heap.IsList l2 ys)
    (h : ∀ h₁ it s₂, GoIt prog w A target s.heap { s with heap := h₁ } (min xs.size ys.size) (ZipP xs ys) [l1, l2] it s₂ → Post { s with heap := h₁ } it s₂) :
    wpAny (model prog w) A (call (.type "zip") [.ref l1, .ref l2]) (fun xv s₁ => wpAny (model prog w) A (pyIter xv) (Post s₁) E s₁) E s := by
  subst ht
  have hlt1 : l1 < s.heap.objs.size := by obtain ⟨o, ho, _⟩ := hl1; exact Heap.lt_size ho
  have hlt2 : l2 < s.heap.objs.size := by obtain ⟨o, ho, _⟩ := hl2; exact Heap.lt_size ho
  have D : ZipApart (s.heap.objs.size + 4) (s.heap.objs.size + 2) (s.heap.objs.size + 3) s.heap.objs.size (s.heap.objs.size + 1) l1 l2 := ktu_apart _ _ _ hlt1 hlt2
  refine call_zip_2 hl1 hl2 fun h' hz hTI hTO hi1 hi2 hsz hk => ?_
  refine wpAny_mono (Q := GoIt prog w A (.Tuple elts k pos) s.heap { s with heap := h' } (min xs.size ys.size) (ZipP xs ys) [l1, l2]) ?_ (fun it s₂ G => h h' it s₂ G) fun _ _ e => e
  refine wpAny_pyIter_zip hz ?_
  have W := (WalksT.zip2 (prog := prog) (w := w) hh _ _ _ _ _ _ _ D xs ys).toU
  have W' := KTurns.ofWalksU (elts := elts) (k := k) (pos := pos) W
  refine ⟨_, _, _, _, _, h', rfl, rfl, W', ⟨hz, hTI, ⟨_, _, hTO⟩, hi1, hi2, hl1.at fun o e => hk _ o e, hl2.at fun o e => hk _ o e⟩, hk, by rw [hsz]; exact Nat.le_add_right _ _, ?_, ?_, ?_, fun s Q E st h => W.self 0 s Q E st h⟩
  · intro b hb
    simp only [List.mem_cons, List.not_mem_nil, or_false] at hb
    exact none_of_size (by rcases hb with rfl | rfl | rfl | rfl <;> (first | exact Nat.le_refl _ | exact Nat.le_add_right _ _))
  · intro b hb
    rw [hsz]
    simp only [List.mem_cons, List.not_mem_nil, or_false] at hb
    rcases hb with rfl | rfl | rfl | rfl | rfl | rfl | rfl <;> (try dsimp only [Addr] at *) <;> omega
  · intro b hb
    simp only [List.mem_cons, List.not_mem_nil, or_false] at hb
    rcases hb with rfl | rfl | rfl | rfl | rfl | rfl | rfl
    · exact .inl (none_of_size (Nat.le_add_right _ _))
    · exact .inl (none_of_size (Nat.le_add_right _ _))
    · exact .inl (none_of_size (Nat.le_add_right _ _))
    · exact .inl (none_of_size (Nat.le_refl _))
    · exact .inl (none_of_size (Nat.le_add_right _ _))
    · exact .inr (.head _)
    · exact .inr (.tail _ (.head _))
end

section
variable {prog : Program} {w : World} {A : Around} {E : Value → Shared → Prop} {s : Shared} {elts : List Expr} {k : Nat} {pos : Pos} {env : Env} {elt : Expr} {ifs : List Expr} {scope : Scope} {cl : List (Str × Addr)} {Q : Value → Shared → Prop} {h₀ : Heap} {body : List Stmt} {QF : Flow → Shared → Prop}
theorem comp_enum_str {y : Str} {t : Tok} (hh : A.handled = none) (h : ∀ h₁ it s₂, GoIt prog w A (.Tuple elts k pos) s.heap { s with heap := h₁ } y.cps.size (EnumSP y) [] it s₂ → CompAt prog w A env (.Tuple elts k pos) elt ifs scope cl Q { s with heap := h₁ } it s₂) :
    wpAny (model prog w) A (call (.type "enumerate") [.str y t]) (fun xv s₁ => wpAny (model prog w) A (pyIter xv) (CompAt prog w A env (.Tuple elts k pos) elt ifs scope cl Q s₁) E s₁) E s := via_enum_str _ rfl hh h
theorem comp_enum {l : Addr} {xs : Array Value} (hh : A.handled = none) (hl : s.heap.IsList l xs) (h : ∀ h₁ it s₂, GoIt prog w A (.Tuple elts k pos) s.heap { s with heap := h₁ } xs.size (EnumP xs) [l] it s₂ → CompAt prog w A env (.Tuple elts k pos) elt ifs scope cl Q { s with heap := h₁ } it s₂) :
    wpAny (model prog w) A (call (.type "enumerate") [.ref l]) (fun xv s₁ => wpAny (model prog w) A (pyIter xv) (CompAt prog w A env (.Tuple elts k pos) elt ifs scope cl Q s₁) E s₁) E s := via_enum _ rfl hh hl h
theorem comp_zip {l1 l2 : Addr} {xs ys : Array Value} (hh : A.handled = none) (hl1 : s.heap.IsList l1 xs) (hl2 : s.heap.IsList l2 ys) (h : ∀ h₁ it s₂, GoIt prog w A (.Tuple elts k pos) s.heap { s with heap := h₁ } (min xs.size ys.size) (ZipP xs ys) [l1, l2] it s₂ → CompAt prog w A env (.Tuple elts k pos) elt ifs scope cl Q { s with heap := h₁ } it s₂) :
    wpAny (model prog w) A (call (.type "zip") [.ref l1, .ref l2]) (fun xv s₁ => wpAny (model prog w) A (pyIter xv) (CompAt prog w A env (.Tuple elts k pos) elt ifs scope cl Q s₁) E s₁) E s := via_zip _ rfl hh hl1 hl2 h
theorem for_zip {l1 l2 : Addr} {xs ys : Array Value} (hh : A.handled = none) (hl1 : s.heap.IsList l1 xs) (hl2 : s.heap.IsList l2 ys) (h : ∀ h₁ it s₂, GoIt prog w A (.Tuple elts k pos) s.heap { s with heap := h₁ } (min xs.size ys.size) (ZipP xs ys) [l1, l2] it s₂ → TurnsAt prog w A h₀ env (.Tuple elts k pos) body QF E it s₂) :
    wpAny (model prog w) A (call (.type "zip") [.ref l1, .ref l2]) (fun xv s₁ => wpAny (model prog w) A (pyIter xv) (fun it s₂ => TurnsAt prog w A h₀ env (.Tuple elts k pos) body QF E it s₂) E s₁) E s := via_zip (Post := fun _ it s₂ => TurnsAt prog w A h₀ env (.Tuple elts k pos) body QF E it s₂) _ rfl hh hl1 hl2 h
end
end Mine
end
section
open PySem PySem.W PyProof.Rows PyProof.V PySem.Spec PySem.Calls PySem.SeqAt
set_option Elab.async false
set_option maxRecDepth 100000
namespace Mine

local macro_rules | `(tactic| walk_at "eval ListComp") => `(tactic| (k_here; k_dflt (refine comp_go (by rfl) (by decide) (by rfl) (by decide) ?_ (by intro _; rfl))))

theorem sys_item {vs : List Value} (hS : StrsAre vs sysL) {k : Int} (h0 : 0 ≤ k) (h5 : k < 5) : ∃ y t, vs[k.toNat]? = some (.str y t) ∧ y ∈ sysL := by
  have hk : k.toNat < sysL.length := by show k.toNat < 5; omega
  obtain ⟨t, ht⟩ := hS.at (List.getElem?_eq_getElem hk)
  exact ⟨_, t, ht, List.getElem_mem hk⟩
theorem sum_le : ∀ (zs : List Str), (∀ z ∈ zs, z.length ≤ 3) → (zs.map (·.length)).sum ≤ 3 * zs.length
  | [], _ => by simp
  | z :: r, h => by
    have h1 := h z (.head _)
    have h2 := sum_le r fun y hy => h y (.tail _ hy)
    simp only [List.map_cons, List.sum_cons, List.length_cons]
    omega
theorem sys_len : ∀ y ∈ sysL, 5 ≤ y.length ∧ y.length ≤ 9 := by decide +kernel

local macro_rules | `(tactic| walk_at "storeName") => `(tactic| (k_here; (with_reducible show wpAny _ _ (storeName (compEnvC _ _ _ _) _ _) _ _ _); k_dflt (refine c_store (by k_asm) (by k_asm) ?_ (by rfl) (by rfl)); k_whole; intro h' F' N'))
local macro_rules | `(tactic| walk_at "eval Name") => `(tactic| (k_here; (with_reducible show wpAny _ _ (eval (Expr.Name _ _) (compEnvC _ _ _ _)) _ _ _); k_dflt (first
  | refine c_local (by k_asm) (by rfl) ?_ (by rfl) (by rfl) (by decide)
  | refine c_cell (by k_asm) (by rfl) (by assumption) ?_ (by rfl) (by rfl) (by decide)); k_whole))
local macro_rules | `(tactic| walk_at "call type:enumerate") => `(tactic| (k_here; (refine comp_enum_str rfl ?_)))
set_option maxHeartbeats 8000000 in
theorem call_text (n : Int) (tn : Tok) : Con 134 [.int n tn] 3 (fun _ => True) (fun _ v _ => ∃ y t, v = .str y t ∧ y.length ≤ 200) := by
  w_top off
  unfold Con
  k_fill
  intro w mean mg mb dp un fr gd s Q E X TT _ hd hu hret
  refine wpAny_call ?_
  k_dflt (refine' enterC (binds := [(Str.ofString "number", .int n tn)]) ?k1 ?k2 ?k6 ?k7 ?k8 ?k9 ?kB ?kD ?_ ?c2 ?c3 ?c4; (case k1 => exact X); (case k2 => exact TT); (case k6 => k_is); (case k7 => k_is); (case k8 => (show dp < 1000); omega); (case k9 => exact BindsTo.of_eq rfl); (case kB => exact rfl); (case kD => decide +kernel); (case c2 => exact rfl); (case c3 => exact rfl); (case c4 => exact rfl))
  intro h₁ tk₁ cells F N Y
  k_cells Y
  (try simp only [List.cons_append, List.nil_append] at N)
  (try dsimp only)
  (try k_fold)
  iterate 39 (first | (k_unfold; (try dsimp only)) | walk1 | (dsimp only; walk1))
  rename Fr _ _ _ _ => F₂
  rename News _ _ _ _ => N₂
  rename StrsAre _ _ => hS
  have hk0 : 0 ≤ (n.fdiv 6).fmod 5 := Int.fmod_nonneg_of_pos _ (by decide)
  have hk5 : (n.fdiv 6).fmod 5 < 5 := Int.fmod_lt_of_pos _ (by decide)
  obtain ⟨y, ty, hy, hys⟩ := sys_item hS hk0 hk5
  refine item_litK (N₂.isList (.head _)) hk0 (by omega) hy ?_ (by with_unfolding_all rfl)
  have N₃ : News _ _ _ [_] := fun p hp => N₂ p (.tail _ (.tail _ hp))
  clear N₂ hy hS
  generalize (n.fdiv 6).fmod 5 = k5 at *
  generalize hr : n.fdiv 6 = r at *
  generalize hso : n.fmod 6 = so at *
  have hso0 : 0 ≤ so := by rw [← hso]; exact Int.fmod_nonneg_of_pos _ (by decide)
  have hso6 : so < 6 := by rw [← hso]; exact Int.fmod_lt_of_pos _ (by decide)
  obtain ⟨hyl5, hyl9⟩ := sys_len y hys
  (try dsimp only)
  iterate 12 (first | (k_unfold; (try dsimp only)) | walk1 | (dsimp only; walk1))
  · k_steps
    rename GoIt _ _ _ _ _ _ _ _ _ _ _ => G
    rename Fr _ _ _ _ => F₄
    rename News _ _ _ _ => N₄
    rename _ = Data.cell (some (Value.int (r.fdiv 5) _)) => hcd
    have hcell := isCell_of N₄ (.head _) hcd
    refine ⟨_, _, _, _, fun i ys => ∃ zs, StrsAre ys zs ∧ (∀ z ∈ zs, z.length ≤ 3) ∧ zs.length ≤ i, G, ?_, ?_, ⟨[], .nil, (fun _ h => nomatch h), Nat.le_refl _⟩, ?_, ?_⟩
    · have : y.cps.size = y.length := rfl
      rw [sizeLine_eq]; omega
    · rintro i ys ⟨zs, hz, _, hl⟩
      rw [hz.length]; exact hl
    · rintro i v C m₁ h tk own ys E' hi ⟨T, vals, rfl, ⟨ti, xv, ⟨c, uc, hc, rfl⟩, rfl⟩, hT⟩ ⟨zs, hz, hz3, hzl⟩ F N
      have hi8 : i ≤ 8 := by have : y.cps.size = y.length := rfl; omega
      have hi8' : (i : Int) ≤ 8 := by omega
      have hi0 : (0 : Int) ≤ i := by omega
      have hc1 : ({ cps := #[c] } : Str).length ≤ 1 := Nat.le_refl 1
      k_steps
      all_goals (refine CE.fin (by assumption) (by assumption) ⟨zs ++ [_], strs_snoc hz _ _, ?_, by rw [List.length_append, List.length_singleton]; omega⟩)
      all_goals (intro z hz'; rcases List.mem_append.mp hz' with hz' | hz'; · exact hz3 z hz')
      all_goals (rw [List.mem_singleton.mp hz'])
      · exact Nat.le_trans (len_upper _) (by omega)
      · exact Nat.le_trans (len_lower _) (by omega)
    · rintro D ys h tk ⟨zs, hz, hz3, hzl⟩ hD0 hD hk₄
      k_steps
      have hsum := sum_le zs hz3
      have hy9 : y.cps.size = y.length := rfl
      refine join_listW (D := D) (items := ys.toArray) ⟨_, hD, rfl, _, rfl⟩ (by simpa using hz) (by decide) (by omega) fun t' k => ?_
      refine hret _ _ _ ⟨_, _, rfl, ?_⟩ fun b o q => hk₄ _ _ (F₄.keep _ _ q)
      exact Nat.le_trans (len_join_le (n := 40) (by unfold Weighs; omega) (by decide)) (by omega)
  · have hylI : (5 : Int) ≤ y.length := by omega
    iterate 9 (first | (k_unfold; (try dsimp only)) | walk1 | (dsimp only; walk1))
    · have e0 : (Str.ofString "").length = 0 := by decide
      have e1 : ∀ c, ({ cps := #[c] } : Str).length = 1 := fun _ => rfl
      k_steps
      all_goals (try dsimp only)
      all_goals exact hret _ _ _ ⟨_, _, rfl, by simp only [Str.length_append, e0, e1]; omega⟩ (Fr.keep (by assumption))
    · have e0 : (Str.ofString "").length = 0 := by decide
      have e1 : ∀ c, ({ cps := #[c] } : Str).length = 1 := fun _ => rfl
      k_steps
      · have h0 : 0 ≤ (r.fdiv 94).fmod 4 := Int.fmod_nonneg_of_pos _ (by decide)
        have h4 : (r.fdiv 94).fmod 4 < 4 := Int.fmod_lt_of_pos _ (by decide)
        refine KXi.mul (n := 1) rfl (by decide) (by omega) (by omega) fun t' k hz hN => ?_
        have hN' := hN (by omega)
        (try dsimp only)
        exact hret _ _ _ ⟨_, _, rfl, by omega⟩ (Fr.keep (by assumption))
      all_goals (try dsimp only)
      all_goals exact hret _ _ _ ⟨_, _, rfl, by simp only [Str.length_append, e0, e1]; omega⟩ (Fr.keep (by assumption))
end Mine
end
section
open PySem PySem.W PyProof.Rows PyProof.V PySem.Spec PySem.Calls PySem.SeqAt
set_option Elab.async false
namespace Mine

theorem lo1_92 : ∀ c, c < 128 → lo1 c = 92 → c = 92 := by decide +kernel
theorem kw_ascii {x : Str} (h : isKw x = true) : (∀ c ∈ x.cps.toList, c < 128) ∧ (∀ c ∈ x.cps.toList, c ≠ 92) := by
  unfold isKw at h
  simp only [Bool.and_eq_true, List.all_eq_true] at h
  refine ⟨fun c hc => ?_, fun c hc => ?_⟩
  · have := h.2 c hc
    unfold okCp at this
    simp only [Bool.and_eq_true, decide_eq_true_eq] at this
    omega
  · have := h.2 c hc
    rintro rfl
    exact absurd this (by decide)
theorem sys_low92 : ∀ n ∈ sysL, (Txt.lower n).cps.toList.head? = some 92 := by decide +kernel
theorem sys_has92 : ∀ n ∈ sysL, n.cps.toList.head? = some 92 := by decide +kernel
theorem kw_noSys {x : Str} (h : isKw x = true) : sysOf x = none := by
  unfold sysOf
  rw [List.find?_eq_none]
  intro n hn
  simp only [decide_eq_true_eq]
  intro e
  have h1 := sys_low92 n hn
  rw [← e, lower_ascii (kw_ascii h).1] at h1
  have h2 : (92 : Nat) ∈ (x.cps.map lo1).toList := List.mem_of_mem_head? h1
  rw [Array.toList_map] at h2
  obtain ⟨c, hc, e2⟩ := List.mem_map.mp h2
  exact (kw_ascii h).2 c hc (lo1_92 c ((kw_ascii h).1 c hc) e2)
theorem kw_notSys {x : Str} (h : isKw x = true) : ¬ x ∈ sysL := fun hm =>
  (kw_ascii h).2 92 (List.mem_of_mem_head? (sys_has92 x hm)) rfl
theorem kw_ne {x : Str} (h : isKw x = true) : x ≠ Str.ofString "" := by
  rintro rfl
  exact absurd h (by decide)
theorem sys_fix : ∀ n ∈ sysL, flagName n = some n := by decide +kernel
theorem sys_ne : ∀ n ∈ sysL, n ≠ Str.ofString "" := by decide +kernel
theorem sysOf_mem {x n : Str} (h : sysOf x = some n) : n ∈ sysL := List.mem_of_find?_eq_some h

theorem flagName_fix {x y : Str} (h : flagName x = some y) : flagName y = some y := by
  cases hs : sysOf x with
  | some n =>
    rw [flagName_sys hs] at h
    cases h
    exact sys_fix _ (sysOf_mem hs)
  | none =>
    cases hk : isKw x with
    | true => rw [flagName_kw hs hk] at h; cases h; exact flagName_kw hs hk
    | false => rw [flagName_no hs hk] at h; cases h
theorem flagName_ne {x y : Str} (h : flagName x = some y) : y ≠ Str.ofString "" := by
  cases hs : sysOf x with
  | some n =>
    rw [flagName_sys hs] at h
    cases h
    exact sys_ne _ (sysOf_mem hs)
  | none =>
    cases hk : isKw x with
    | true => rw [flagName_kw hs hk] at h; cases h; exact kw_ne hk
    | false => rw [flagName_no hs hk] at h; cases h
theorem due_empty {x : Str} (h : dueS x = Str.ofString "") : flagName x = none := by
  cases hf : flagName x with
  | none => rfl
  | some y => exact absurd ((dueS_some hf).symm.trans h) (flagName_ne hf)
theorem due_full {x : Str} (h : dueS x ≠ Str.ofString "") : flagName x = some (dueS x) := by
  cases hf : flagName x with
  | none => exact absurd (dueS_none hf) h
  | some y => rw [dueS_some hf]
theorem isKw_due (x : Str) : isKw x = (decide (dueS x ≠ Str.ofString "") && !decide (dueS x ∈ sysL)) := by
  cases hs : sysOf x with
  | some n =>
    have hd : dueS x = n := dueS_some (flagName_sys hs)
    have hk : isKw x = false := by
      cases hk : isKw x with
      | false => rfl
      | true => rw [kw_noSys hk] at hs; cases hs
    rw [hk, hd]
    simp [sysOf_mem hs]
  | none =>
    cases hk : isKw x with
    | true =>
      have hd : dueS x = x := dueS_some (flagName_kw hs hk)
      rw [hd]
      simp [kw_ne hk, kw_notSys hk]
    | false =>
      have hd : dueS x = Str.ofString "" := dueS_none (flagName_no hs hk)
      rw [hd]
      simp
theorem seen_upper : flagName (Str.ofString "\\SEEN") = some (Str.ofString "\\Seen") := by decide +kernel
theorem seen_same : flagName (Str.ofString "\\Seen") = some (Str.ofString "\\Seen") := by decide +kernel

/-- the texts that are flags -/
def goodS (l : List Str) : List Str := l.filter fun x => decide (dueS x ≠ Str.ofString "")
def keptS (l : List Str) : List Str := dedup ((goodS l).map dueS)
theorem mapM_due : ∀ {l : List Str}, (∀ x ∈ l, flagName x = some (dueS x)) → l.mapM flagName = some (l.map dueS)
  | [], _ => rfl
  | x :: r, h => by
    rw [List.mapM_cons, h x (.head _), mapM_due fun y hy => h y (.tail _ hy)]
    rfl
theorem good_flag {l : List Str} : ∀ x ∈ goodS l, flagName x = some (dueS x) := fun x hx => by
  have := (List.mem_filter.mp hx).2
  exact due_full (by simpa using this)
theorem flagTup_of {l : List Str} (h : ∀ x ∈ l, flagName x = some (dueS x)) : flagTup l = some (sortS (dedup (l.map dueS))) := by
  unfold flagTup
  rw [mapM_due h]; rfl
theorem fixed_map {l : List Str} (h : ∀ x ∈ l, flagName x = some x) : l.map dueS = l := by
  conv => rhs; rw [← List.map_id l]
  exact List.map_congr_left fun x hx => dueS_some (h x hx)
theorem flagTup_fixed {l : List Str} (h : ∀ x ∈ l, flagName x = some x) : flagTup l = some (sortS (dedup l)) := by
  rw [flagTup_of fun x hx => by rw [dueS_some (h x hx)]; exact h x hx, fixed_map h]
theorem dedup_nodup {l : List Str} (h : l.Nodup) : dedup l = l := by
  have : ∀ (l acc : List Str), (acc ++ l).Nodup → l.foldl addU acc = acc ++ l := by
    intro l
    induction l with
    | nil => intro acc _; simp
    | cons y r ih =>
      intro acc h
      have hy : ¬ y ∈ acc := fun hm => by
        rw [List.nodup_append] at h
        exact h.2.2 y hm y (.head _) rfl
      rw [List.foldl_cons, addU_out hy, ih]
      · simp
      · simpa using h
  simpa [dedup] using this l [] (by simpa using h)
theorem sort_same {a b : List Str} (h : ∀ z, z ∈ a ↔ z ∈ b) : sortS (dedup a) = sortS (dedup b) :=
  sortS_congr (perm_of_same (nodup_dedup a) (nodup_dedup b) fun z => by rw [mem_dedup, mem_dedup, h])
theorem sort_pair_nodup {l : List Str} (hn : l.Nodup) (hp : l.Pairwise (fun a b => leS a b = true)) : sortS (dedup l) = l := by
  rw [dedup_nodup hn, sortS_of_pair hp]

section
variable (l : List Str)
/-- the flags in order -/
def allS : List Str := sortS (keptS l)
def evens (l : List Str) : List Str := ((l.zipIdx).filter fun p => p.2 % 2 == 0).map (·.1)
def halfS : List Str := evens (allS l)
def restS : List Str := (allS l).filter fun x => !decide (x ∈ halfS l)

theorem evens_sub (l : List Str) : (evens l).Sublist l := by
  have h : ((l.zipIdx).filter fun p => p.2 % 2 == 0).Sublist l.zipIdx := List.filter_sublist
  have h2 := h.map (·.1)
  have e : l.zipIdx.map (·.1) = l := by simp
  rwa [e] at h2
theorem evens_take {l : List Str} {i : Nat} {y : Str} (hy : l[i]? = some y) : evens (l.take (i + 1)) = evens (l.take i) ++ (if i % 2 = 0 then [y] else []) := by
  have hi : i < l.length := (List.getElem?_eq_some_iff.mp hy).1
  have hlen : (l.take i).length = i := by rw [List.length_take]; omega
  unfold evens
  rw [List.take_add_one, hy]
  simp only [Option.toList_some, List.zipIdx_append, List.filter_append, List.map_append, hlen, Nat.zero_add]
  congr 1
  simp only [List.zipIdx_cons, List.zipIdx_nil, List.filter_cons, List.filter_nil]
  by_cases h : i % 2 = 0
  · simp [h]
  · simp [h]
theorem nodup_kept : (keptS l).Nodup := nodup_dedup _
theorem nodup_all : (allS l).Nodup := (sortS_perm _).nodup_iff.mpr (nodup_kept l)
theorem pair_all : (allS l).Pairwise (fun a b => leS a b = true) := sortS_pair _
theorem half_sub : (halfS l).Sublist (allS l) := evens_sub _
theorem rest_sub : (restS l).Sublist (allS l) := List.filter_sublist
theorem fix_kept : ∀ x ∈ keptS l, flagName x = some x := fun x hx => by
  rw [keptS, mem_dedup] at hx
  obtain ⟨y, hy, rfl⟩ := List.mem_map.mp hx
  exact flagName_fix (good_flag y hy)
theorem mem_all {z : Str} : z ∈ allS l ↔ z ∈ keptS l := (sortS_perm _).mem_iff
theorem fix_all : ∀ x ∈ allS l, flagName x = some x := fun x hx => fix_kept l x ((mem_all l).mp hx)
theorem tup_half : flagTup (halfS l) = some (halfS l) := by
  rw [flagTup_fixed fun x hx => fix_all l x ((half_sub l).mem hx), sort_pair_nodup ((nodup_all l).sublist (half_sub l)) ((pair_all l).sublist (half_sub l))]
theorem tup_rest : flagTup (restS l) = some (restS l) := by
  rw [flagTup_fixed fun x hx => fix_all l x ((rest_sub l).mem hx), sort_pair_nodup ((nodup_all l).sublist (rest_sub l)) ((pair_all l).sublist (rest_sub l))]
theorem tup_good : flagTup (goodS l) = some (allS l) := flagTup_of good_flag
theorem tup_twice : flagTup (goodS l ++ (goodS l).reverse) = some (allS l) := by
  rw [flagTup_of fun x hx => (List.mem_append.mp hx).elim (good_flag x) fun h => good_flag x (List.mem_reverse.mp h)]
  congr 1
  refine sort_same fun z => ?_
  simp
theorem sort_all : sortS (dedup (allS l)) = allS l := sort_pair_nodup (nodup_all l) (pair_all l)
theorem mem_rest {z : Str} : z ∈ restS l ↔ z ∈ allS l ∧ ¬ z ∈ halfS l := by
  unfold restS
  rw [List.mem_filter]
  simp
theorem after_plus : afterT (Str.ofString "+") (goodS l) (halfS l) = some (allS l) := by
  unfold afterT afterV
  rw [tup_good, Option.bind_some, if_pos rfl, flagTup_fixed fun x hx => (List.mem_append.mp hx).elim (fun h => fix_all l x ((half_sub l).mem h)) (fix_all l x)]
  rw [sort_same (b := allS l) fun z => ?_, sort_all]
  rw [List.mem_append]
  exact ⟨fun h => h.elim (half_sub l).mem id, .inr⟩
theorem after_more : afterT (Str.ofString "+") (restS l) (halfS l) = some (allS l) := by
  unfold afterT afterV
  rw [tup_rest, Option.bind_some, if_pos rfl, flagTup_fixed fun x hx => (List.mem_append.mp hx).elim (fun h => fix_all l x ((half_sub l).mem h)) (fun h => fix_all l x ((rest_sub l).mem h))]
  rw [sort_same (b := allS l) fun z => ?_, sort_all]
  rw [List.mem_append, mem_rest]
  constructor
  · rintro (h | h)
    · exact (half_sub l).mem h
    · exact h.1
  · intro h
    by_cases q : z ∈ halfS l
    · exact .inl q
    · exact .inr ⟨h, q⟩
theorem after_is : afterT (Str.ofString "=") (restS l) (halfS l) = some (restS l) := by
  unfold afterT afterV
  rw [tup_rest, Option.bind_some, if_neg (by decide), if_neg (by decide), if_pos rfl]
theorem after_none : afterT (Str.ofString "-") [] (halfS l) = some (halfS l) := by
  unfold afterT afterV
  rw [show flagTup [] = some [] from by decide +kernel, Option.bind_some, if_neg (by decide), if_pos rfl]
  congr 1
  rw [List.filter_eq_self]
  simp
theorem after_cut : afterT (Str.ofString "-") ((halfS l).take 1 ++ restS l) (halfS l) = some ((halfS l).drop 1) := by
  have hfix : ∀ x ∈ (halfS l).take 1 ++ restS l, flagName x = some x := fun x hx => (List.mem_append.mp hx).elim (fun h => fix_all l x ((half_sub l).mem (List.mem_of_mem_take h))) (fun h => fix_all l x ((rest_sub l).mem h))
  unfold afterT afterV
  rw [flagTup_fixed hfix, Option.bind_some, if_neg (by decide), if_pos rfl]
  congr 1
  have hm : ∀ z ∈ halfS l, (!decide (z ∈ sortS (dedup ((halfS l).take 1 ++ restS l)))) = !decide (z ∈ (halfS l).take 1) := fun z hz => by
    congr 1
    rw [decide_eq_decide, (sortS_perm _).mem_iff, mem_dedup, List.mem_append, mem_rest]
    exact ⟨fun h => h.elim id fun q => absurd hz q.2, .inl⟩
  rw [List.filter_congr hm]
  have hn := (nodup_all l).sublist (half_sub l)
  cases hh : halfS l with
  | nil => rfl
  | cons a t =>
    rw [hh] at hn
    simp only [List.take_succ_cons, List.take_zero, List.drop_succ_cons, List.drop_zero, List.mem_singleton]
    rw [List.filter_cons]
    simp only [decide_true, Bool.not_true, Bool.false_eq_true, if_false]
    rw [List.filter_eq_self]
    intro z hz
    have : z ≠ a := fun e => (List.nodup_cons.mp hn).1 (e ▸ hz)
    simp [this]
theorem filter_sub : ∀ {a b : List Str}, a.Sublist b → b.Nodup → b.filter (fun x => decide (x ∈ a)) = a := by
  intro a b h
  induction h with
  | slnil => intro _; rfl
  | cons x h ih =>
    rename_i a b
    intro hn
    obtain ⟨h1, h2⟩ := List.nodup_cons.mp hn
    rw [List.filter_cons]
    have : ¬ x ∈ a := fun q => h1 (h.mem q)
    simp only [this, decide_false, Bool.false_eq_true, if_false]
    exact ih h2
  | cons_cons x h ih =>
    rename_i a b
    intro hn
    obtain ⟨h1, h2⟩ := List.nodup_cons.mp hn
    rw [List.filter_cons]
    simp only [List.mem_cons, true_or, decide_true, if_true]
    congr 1
    refine Eq.trans (List.filter_congr fun z hz => ?_) (ih h2)
    have : z ≠ x := fun e => h1 (e ▸ hz)
    simp [this]
theorem after_back : afterT (Str.ofString "-") (restS l) (allS l) = some (halfS l) := by
  unfold afterT afterV
  rw [tup_rest, Option.bind_some, if_neg (by decide), if_pos rfl]
  congr 1
  refine Eq.trans (List.filter_congr fun z hz => ?_) (filter_sub (half_sub l) (nodup_all l))
  rw [Bool.eq_iff_iff]
  simp only [Bool.not_eq_true', decide_eq_false_iff_not, decide_eq_true_eq, mem_rest, not_and, Classical.not_not]
  exact ⟨fun h => h hz, fun h _ => h⟩
theorem after_star : afterT (Str.ofString "*") (goodS l) [] = none := by
  unfold afterT afterV
  rw [tup_good, Option.bind_some, if_neg (by decide), if_neg (by decide), if_neg (by decide)]
theorem len_good : (goodS l).length ≤ l.length := List.length_filter_le _ _
theorem len_kept : (keptS l).length ≤ l.length := by
  refine Nat.le_trans (len_dedup _) ?_
  rw [List.length_map]
  exact len_good l
theorem len_all : (allS l).length ≤ l.length := by
  unfold allS
  rw [(sortS_perm _).length_eq]
  exact len_kept l
theorem len_half : (halfS l).length ≤ l.length := Nat.le_trans (half_sub l).length_le (len_all l)
theorem len_rest : (restS l).length ≤ l.length := Nat.le_trans (rest_sub l).length_le (len_all l)
theorem short_due {x : Str} (h : x.length ≤ 200) : (dueS x).length ≤ 200 := by
  cases hf : flagName x with
  | none => rw [dueS_none hf]; decide
  | some y => rw [dueS_some hf]; exact flagName_len hf h
theorem short_kept (h : ∀ x ∈ l, x.length ≤ 200) : ∀ x ∈ keptS l, x.length ≤ 200 := fun x hx => by
  rw [keptS, mem_dedup] at hx
  obtain ⟨y, hy, rfl⟩ := List.mem_map.mp hx
  exact short_due (h y (List.mem_filter.mp hy).1)
theorem short_all (h : ∀ x ∈ l, x.length ≤ 200) : ∀ x ∈ allS l, x.length ≤ 200 := fun x hx => short_kept l h x ((mem_all l).mp hx)
theorem short_half (h : ∀ x ∈ l, x.length ≤ 200) : ∀ x ∈ halfS l, x.length ≤ 200 := fun x hx => short_all l h x ((half_sub l).mem hx)
theorem short_rest (h : ∀ x ∈ l, x.length ≤ 200) : ∀ x ∈ restS l, x.length ≤ 200 := fun x hx => short_all l h x ((rest_sub l).mem hx)
theorem short_good (h : ∀ x ∈ l, x.length ≤ 200) : ∀ x ∈ goodS l, x.length ≤ 200 := fun x hx => h x (List.mem_filter.mp hx).1
end
end Mine
end
section
open PySem PySem.W PyProof.Rows PyProof.V PySem.Spec PySem.Calls PySem.SeqAt
set_option Elab.async false
set_option maxRecDepth 100000
namespace Mine
section
variable {prog : Program} {w : World} {A : Around} {E : Value → Shared → Prop} {s : Shared} {env : Env}

/-- what is behind the iterator of a list comprehension that is assigned to a local name -/
def CompAtA (prog : Program) (w : World) (A : Around) (h₀ : Heap) (env : Env) (target elt : Expr) (ifs : List Expr) (scope : Scope) (cl : List (Str × Addr)) (y : Str) (Q : Flow → Shared → Prop) (s₁ : Shared) (it : Value) (s₂ : Shared) : Prop :=
  ∃ hb n P src J m₀, GoIt prog w A target hb s₁ n P src it s₂ ∧ Fr h₀ env.locals hb m₀ ∧ n ≤ sizeLine ∧ (∀ i ys, J i ys → ys.length ≤ i) ∧ J 0 [] ∧ CBody prog w A env target elt ifs scope cl hb s₁ n P J ∧
    (∀ D ys h tk, J n ys → hb.get? D = none → h.get? D = some (lstO ys) → Fr h₀ env.locals h (fun z => if z = y then some (.ref D) else m₀ z) → (∀ b o, b ≠ env.locals → hb.get? b = some o → h.get? b = some o) → Q .next { s₁ with heap := h, toks := tk })

theorem comp_assign {elt target iter : Expr} {ifs : List Expr} {scope : Scope} {cl : List (Str × Addr)} {pos spos py : Pos} {y : Str} {h₀ : Heap} {m₁ : Str → Option Value} {Q : Flow → Shared → Prop}
    (Fh : Fr h₀ env.locals s.heap m₁) (hsw : swapsWith (.ListComp elt [⟨target, iter, ifs, 0⟩] scope pos) (some (.Name y py)) spos.line env = pure true) (hy : env.kindOf y = some .local)
    (hp : (env.scope.kind == .class || (env.scope.kind == .module && env.locals != env.globals)) = false)
    (hclos : closureFor scope env = pure cl) (hcell : ∀ y ∈ scope.names, y.2 ≠ .cell) (hkind : scope.kind = .function)
    (hnames : ∀ y ∈ scope.names, y.2 = .local → scope.names.lookup y.1 = some .local)
    (h : wpAny (model prog w) A (eval iter env) (fun xv s₁ => wpAny (model prog w) A (pyIter xv) (CompAtA prog w A h₀ env target elt ifs scope cl y Q s₁) E s₁) E s)
    (hs : ∀ x, foldedSetIterable iter env x = pure x := by intro _; rfl) :
    wpAny (model prog w) A (exec (.Assign [.Name y py] (.ListComp elt [⟨target, iter, ifs, 0⟩] scope pos) spos) env) Q E s := by
  rw [exec_Assign_Name_used _ _ _ _ hsw]
  refine wpAny_bind (wpAny_standAt (wpAny_bind ?_))
  show wpAny _ A (do let _ ← comprehension (.ListComp elt [⟨target, iter, ifs, 0⟩] scope pos) scope env _ (newList []) false (eval iter env) (some (assign (.Name y py) env))) _ _ s
  refine wpAny_bind (wpAny_mono (wpAny_comprehension_free (use := some (assign (.Name y py) env)) (Q := fun _ s' => Q .next s') rfl hs hclos hkind hnames (wpAny_mono h (fun xv s₁ h₁ => wpAny_mono h₁ (fun it s₂ h₂ => ?_) fun _ _ e => e) fun _ _ e => e)) (fun _ s' hq => wpAny_pure (wpAny_pure hq)) fun _ _ e => e)
  obtain ⟨hb, n, P, src, J, m₀, G, F₀, hsz, hJl, hJ0, body, hQ⟩ := h₂
  obtain ⟨I, fp, wr, Md, St, h', rfl, rfl, W, st, hk, hsle, hwr, hfp, hfs, hself⟩ := G
  refine wpAny_newObj_type (wpAny_newFunctionEnv hcell (by intro y hy; simp at hy) (fun h₁ hns₁ hsb₁ => ?_) hkind)
  dsimp only at hns₁ hsb₁ ⊢
  generalize hH2 : h'.push { cls := .type "list", dict := none, data := .seq ([] : List Value).toArray } = H2 at hns₁ hsb₁ ⊢
  have hC : H2.objs.size = h'.objs.size + 1 := by rw [← hH2, Heap.size_push]
  have hDC : h'.objs.size ≠ H2.objs.size := by rw [hC]; exact Nat.ne_of_lt (Nat.lt_succ_self _)
  have below : ∀ b, b < h'.objs.size → b ≠ H2.objs.size ∧ b ≠ h'.objs.size := fun b hm => ⟨by rw [hC]; exact Nat.ne_of_lt (Nat.lt_succ_of_lt hm), Nat.ne_of_lt hm⟩
  have hDf : h'.objs.size ∉ fp := fun hm => Nat.lt_irrefl _ (hfp _ hm)
  have hCf : H2.objs.size ∉ fp := fun hm => by have := hfp _ hm; rw [hC] at this; exact Nat.lt_irrefl _ (Nat.lt_of_succ_lt this)
  have old : ∀ b o, h'.get? b = some o → h₁.get? b = some o := fun b o e => hsb₁.extBut b o (below b (Heap.lt_size e)).1 (Heap.get?_push_of_some _ (hH2 ▸ Heap.get?_push_of_some _ e))
  have hacc : h₁.get? h'.objs.size = some (lstO []) := hsb₁.extBut _ _ hDC (Heap.get?_push_of_some _ (hH2 ▸ Heap.get?_push_size _ rfl))
  have hst₁ : St 0 h₁ := W.frame _ _ _ st fun b _ o e => old b o e
  have up : Kp hb h₁ := fun b o e => old b o (hk b o e)
  have hD0 : hb.get? h'.objs.size = none := none_of_size hsle
  have hC0 : hb.get? H2.objs.size = none := none_of_size (by rw [hC]; exact Nat.le_succ_of_le hsle)
  have hCle : hb.objs.size ≤ H2.objs.size := by rw [hC]; exact Nat.le_succ_of_le hsle
  have oldw : ∀ b o, hb.get? b = some o → b ∉ wr := fun b o e hm => by rw [hwr b hm] at e; cases e
  have hCw : H2.objs.size ∉ wr := fun h => hCf (W.sub _ h)
  have hDw : h'.objs.size ∉ wr := fun h => hDf (W.sub _ h)
  have loop : ∀ s₃ : Shared, s₃ = { s₁ with heap := h₁, toks := s₁.toks + ([] : List (Str × Value)).length } →
      codeAny (model prog w) A (.compLoop (.ListComp elt [⟨target, iter, ifs, 0⟩] scope pos) 0 (.ref I) (.ref h'.objs.size) (compEnvC scope cl H2.objs.size env))
        (compPost (model prog w) A E (some (assign (.Name y py) env)) (fun _ s' => Q .next s') (.ref h'.objs.size) H2.objs.size) s₃ := by
    rintro s₃ rfl
    refine compLoop_gen
      (fun k s' => ∃ g tk i ys m', s' = { s₁ with heap := g, toks := tk } ∧ i ≤ n ∧ k = n + 1 - i ∧ St i g ∧ Kp hb g ∧ g.Ns H2.objs.size m' ∧ g.get? h'.objs.size = some (lstO ys) ∧ J i ys) ?_ (n + 1)
      ⟨h₁, _, 0, [], _, rfl, Nat.zero_le _, rfl, hst₁, up, hns₁, hacc, hJ0⟩
    rintro k s' ⟨g, tk, i, ys, m', rfl, hi, rfl, hst', hkg, hn', hD', hJ⟩
    by_cases hlt : i < n
    · refine W.item i _ _ _ hlt hst' fun v h₂ tk₂ hMd hk₂ => ?_
      refine W.go i v _ _ _ hMd fun h₃ hP hst₃ hk₃ => ?_
      have hk23 : ∀ b o, b ∉ wr → g.get? b = some o → h₃.get? b = some o := fun b o hb e => hk₃ b o hb (hk₂ b o hb e)
      have F₃ : Fr hb H2.objs.size h₃ m' := ⟨hn'.at' fun o e => hk23 _ o hCw e, fun b o e => hk23 b o (oldw b o e) (hkg b o e), hCle⟩
      have hD₃ : h₃.get? h'.objs.size = some (lstO ys) := hk23 _ _ hDw hD'
      have Nown : News hb H2.objs.size h₃ ((h'.objs.size, lstO ys) :: PyProof.Rows.ownOf hb fp h₃) := fun p hp => by
        rcases List.mem_cons.mp hp with rfl | hp
        · exact ⟨hD₃, hDC, hD0⟩
        · exact news_ownOf hCf p hp
      have after : ∀ s₅, CEnd hb H2.objs.size ((h'.objs.size, lstO ys) :: PyProof.Rows.ownOf hb fp h₃) { s₁ with heap := h₃, toks := tk₂ } s₅ →
          ∃ h₅ tk₅ m₅, s₅ = { s₁ with heap := h₅, toks := tk₅ } ∧ St (i + 1) h₅ ∧ Kp hb h₅ ∧ h₅.Ns H2.objs.size m₅ ∧ h₅.get? h'.objs.size = some (lstO ys) := by
        rintro s₅ ⟨h₅, tk₅, m₅, news', rfl, F₅, N₅, hn₅⟩
        refine ⟨h₅, tk₅, m₅, rfl, W.frame _ _ _ hst₃ fun b hm o e => ?_, F₅.keep, F₅.ns, (N₅ _ (hn₅ _ (.head _))).1⟩
        cases hn : hb.get? b with
        | some o₀ =>
          have : o₀ = o := by have q := F₃.keep b o₀ hn; rw [e] at q; exact (Option.some.inj q).symm
          exact this ▸ F₅.keep b o₀ hn
        | none => exact (N₅ _ (hn₅ _ (.tail _ (mem_ownOf hm hn e)))).1
      refine wpAny_mono (body i v H2.objs.size m' h₃ tk₂ _ ys _ hlt hP hJ F₃ Nown) (fun _ s₄ h₄ => wpAny_mono h₄ (fun ok s₅ h₅ => ?_) fun _ _ e => e) fun _ _ e => e
      cases ok with
      | false =>
        obtain ⟨c, hJ'⟩ := h₅
        obtain ⟨h₅, tk₅, m₅, rfl, st₅, k₅, n₅, d₅⟩ := after _ c
        exact ⟨n + 1 - (i + 1), by omega, h₅, tk₅, i + 1, ys, m₅, rfl, hlt, rfl, st₅, k₅, n₅, d₅, hJ'⟩
      | true =>
        refine wpAny_mono h₅ (fun y s₆ h₆ => ?_) fun _ _ e => e
        obtain ⟨c, hJ'⟩ := h₆
        obtain ⟨h₆, tk₆, m₆, rfl, st₆, k₆, n₆, d₆⟩ := after _ c
        refine append_at (hsz := by show ys.toArray.size ≤ sizeLine; rw [List.size_toArray]; exact Nat.le_trans (hJl i ys hJ) (Nat.le_trans hi hsz)) d₆ fun h₇ hs₇ d₇ => ?_
        refine ⟨n + 1 - (i + 1), by omega, h₇, tk₆, i + 1, ys ++ [y], m₆, rfl, hlt, rfl, W.frame _ _ _ st₆ fun b hm o e => hs₇.extBut b o (fun q => hDf (q ▸ hm)) e, fun b o e => hs₇.extBut b o (fun q => by rw [q, hD0] at e; cases e) (k₆ b o e), n₆.sameBut hs₇ (Ne.symm hDC), d₇.trans (congrArg some (LCg.lst_snoc ys y)), hJ'⟩
    · obtain rfl : i = n := Nat.le_antisymm hi (Nat.not_lt.mp hlt)
      refine W.done _ _ _ hst' fun h₂ tk₂ hk₂ => ?_
      have hL : (hb.get? env.locals).isSome = true := by obtain ⟨o, es, ep, ho, _⟩ := F₀.ns; rw [ho]; rfl
      have kp2 : Kp hb h₂ := fun b o e => hk₂ b o (oldw b o e) (hkg b o e)
      have hCL : H2.objs.size ≠ env.locals := fun q => by rw [← q, hC0] at hL; cases hL
      have hDL : h'.objs.size ≠ env.locals := fun q => by rw [← q, hD0] at hL; cases hL
      have hL₀ : h₀.get? env.locals = none := Heap.get?_none_of_le F₀.above
      have hC₀ : h₀.get? H2.objs.size = none := Kp.none F₀.keep hC0
      show wpAny _ A (assign (.Name y py) env (.ref h'.objs.size)) _ _ _
      refine wpAny_assign_Name (wpAny_storeName_local hy (F₀.keeps kp2).ns (fun h₃ hn₃ hs₃ => ?_) hp)
      have F₃ : Fr h₀ env.locals h₃ (fun z => if z = y then some (.ref h'.objs.size) else m₀ z) := ⟨hn₃, fun b o e => hs₃.extBut b o (fun q => by rw [q, hL₀] at e; cases e) ((F₀.keeps kp2).keep b o e), F₀.above⟩
      refine ⟨m', (hn'.at' fun o e => hk₂ _ o hCw e).sameBut hs₃ hCL, fun h₄ hs₄ => ?_⟩
      exact hQ _ ys h₄ _ hJ hD0 (hs₄.extBut _ _ hDC (hs₃.extBut _ _ hDL (hk₂ _ _ hDw hD'))) (F₃.change hs₄ hCL hC₀) fun b o hbL e => hs₄.extBut b o (fun q => by rw [q, hC0] at e; cases e) (hs₃.extBut b o hbL (kp2 b o e))
  exact codeAny_compStart_list (loop _ rfl) (hself _ _ _ hst₁ (loop _ rfl))
end

theorem news_but {h₀ hb h : Heap} {L : Addr} {news : List (Addr × Obj)} (N : News h₀ L hb news) (k : ∀ b o, b ≠ L → hb.get? b = some o → h.get? b = some o) : News h₀ L h news :=
  fun p hp => ⟨k _ _ (N p hp).2.1 (N p hp).1, (N p hp).2⟩
theorem news_butD {h₀ hb h : Heap} {L D : Addr} {o : Obj} {m : Str → Option Value} {news : List (Addr × Obj)} (F : Fr h₀ L hb m) (N : News h₀ L hb news) (k : ∀ b o, b ≠ L → hb.get? b = some o → h.get? b = some o) (h0 : hb.get? D = none) (hD : h.get? D = some o) : News h₀ L h ((D, o) :: news) := fun p hp => by
  rcases List.mem_cons.mp hp with rfl | hp
  · refine ⟨hD, fun q => ?_, Kp.none F.keep h0⟩
    obtain ⟨o', _, _, ho, _⟩ := F.ns
    dsimp only at q
    rw [← q, h0] at ho
    cases ho
  · exact news_but N k p hp

section
variable {prog : Program} {w : World} {A : Around} {E : Value → Shared → Prop} {s : Shared} {elts : List Expr} {k : Nat} {pos : Pos} {env : Env} {elt : Expr} {ifs : List Expr} {scope : Scope} {cl : List (Str × Addr)} {h₀ : Heap} {y : Str} {Q : Flow → Shared → Prop}
theorem compA_zip {l1 l2 : Addr} {xs ys : Array Value} (hh : A.handled = none) (hl1 : s.heap.IsList l1 xs) (hl2 : s.heap.IsList l2 ys) (h : ∀ h₁ it s₂, GoIt prog w A (.Tuple elts k pos) s.heap { s with heap := h₁ } (min xs.size ys.size) (ZipP xs ys) [l1, l2] it s₂ → CompAtA prog w A h₀ env (.Tuple elts k pos) elt ifs scope cl y Q { s with heap := h₁ } it s₂) :
    wpAny (model prog w) A (call (.type "zip") [.ref l1, .ref l2]) (fun xv s₁ => wpAny (model prog w) A (pyIter xv) (CompAtA prog w A h₀ env (.Tuple elts k pos) elt ifs scope cl y Q s₁) E s₁) E s := via_zip _ rfl hh hl1 hl2 h
end
end Mine
end
section
open PySem PySem.W PyProof.Rows PyProof.V PySem.Spec PySem.Calls PySem.SeqAt
set_option Elab.async false
set_option maxRecDepth 100000
namespace Mine
/-- the walk stops here -/
def Stop (p : Prop) : Prop := p
theorem stop_call {prog : Program} {w : World} {A : Around} {f : Value} {args : List Value} {Q : Value → Shared → Prop} {E : Value → Shared → Prop} {s : Shared} (h : Stop (wpAny (model prog w) A (call f args) Q E s)) : wpAny (model prog w) A (call f args) Q E s := h
theorem fr_back {h₀ h h' : Heap} {L : Addr} {m : Str → Option Value} {env : Env} (F : Fr h₀ L h m) (hf : env.frame = some L) (hu : (under h [env]).StaysIn h') (hs : h.UpToSlots h') : Fr h₀ L h' m := by
  refine F.of_stays (fun b o q => hu b o (hideAll_get _ (F.keep b o q) fun hm => ?_)) hs
  simp only [List.filterMap_cons, hf, List.filterMap_nil, List.mem_singleton] at hm
  subst hm
  exact absurd (Nat.lt_of_lt_of_le (Heap.lt_size q) F.above) (Nat.lt_irrefl _)
theorem news_back {h₀ h h' : Heap} {L : Addr} {env : Env} {news : List (Addr × Obj)} (N : News h₀ L h news) (hf : env.frame = some L) (hu : (under h [env]).StaysIn h') : News h₀ L h' news := fun p hp => by
  refine ⟨hu _ _ (hideAll_get _ (N p hp).1 fun hm => ?_), (N p hp).2⟩
  simp only [List.filterMap_cons, hf, List.filterMap_nil, List.mem_singleton] at hm
  exact (N p hp).2.1 hm
theorem upd3 {a b c : Str} {v1 v2 v3 u1 u2 u3 : Option Value} {f : Str → Option Value} :
    (fun y => if y = c then v3 else if y = b then v2 else if y = a then v1 else if y = c then u3 else if y = b then u2 else if y = a then u1 else f y) = fun y => if y = c then v3 else if y = b then v2 else if y = a then v1 else f y := by
  funext y
  by_cases e1 : y = c
  · rw [if_pos e1, if_pos e1]
  · by_cases e2 : y = b
    · rw [if_neg e1, if_pos e2, if_neg e1, if_pos e2]
    · by_cases e3 : y = a
      · rw [if_neg e1, if_neg e2, if_pos e3, if_neg e1, if_neg e2, if_pos e3]
      · rw [if_neg e1, if_neg e2, if_neg e3, if_neg e1, if_neg e2, if_neg e3, if_neg e1, if_neg e2, if_neg e3]
theorem drop0 {h₀ h : Heap} {L : Addr} {x : Addr × Obj} {r : List (Addr × Obj)} (N : News h₀ L h (x :: r)) : News h₀ L h r := fun p hp => N p (.tail _ hp)
theorem drop1 {h₀ h : Heap} {L : Addr} {a x : Addr × Obj} {r : List (Addr × Obj)} (N : News h₀ L h (a :: x :: r)) : News h₀ L h (a :: r) := fun p hp => by
  rcases List.mem_cons.mp hp with rfl | hp
  · exact N _ (.head _)
  · exact N _ (.tail _ (.tail _ hp))
section
variable {w : World} {mean : ExcName → Option Value} {mg mb : Str → Option Value} {env : Env} {h₀ : Heap} {E : Value → Shared → Prop} {Q : Value → Shared → Prop} {s : Shared}
/-- a call of _law_refuses in the law's frame -/
theorem refuse_step (X : (Mine.hd.heap_39 w.params).In h₀) (T : Top Mine.hd.view_39 (looseW Mine.hd.view_39 [Str.ofString "PostError"]) mean mg mb h₀) (K : Below callerA h₀ [] h₀)
    {L D : Addr} {m : Str → Option Value} {vs : List Value} {ls : List Str} {way : Str} {tw : Tok} {news : List (Addr × Obj)} (F : Fr h₀ L s.heap m) (N : News h₀ L s.heap news) (hf : env.frame = some L) (hk : env.scope.kind = .function)
    (hl : s.heap.IsList D vs.toArray) (hS : StrsAre vs ls) (hn : ls.length < 64) (hlen : ∀ x ∈ ls, x.length ≤ 200) (hr : refusesS way ls)
    (h : ∀ h' tk, Fr h₀ L h' m → News h₀ L h' news → Q (.bool true) { s with heap := h', toks := tk }) :
    wpAny (model Challenge.rw_no0350_01.row.prog w) (callerA.deeper env) (call (.ref 148) [.ref D, .str way tw]) Q E s := by
  refine call_refuses D vs ls way tw hS hn hlen hr w mean mg mb _ _ _ _ h₀ [env] s Q E X T hl (pushX K F hf hk) (by decide) (by decide) ?_
  rintro v h' tk rfl hu hs
  exact h h' tk (fr_back F hf hu hs) (news_back N hf hu)
end
theorem any_dec (d : Str) (l : List Str) : (l.any fun z => z == d) = decide (d ∈ l) := by
  cases h : l.any fun z => z == d with
  | true => exact (decide_eq_true (any_mem h)).symm
  | false => exact (decide_eq_false (any_not h)).symm
theorem word_yes {x d : Str} (hd : d = dueS x) (h : (d != Str.ofString "") = true) : (!sysL.any fun z => z == d) = isKw x := by
  subst hd
  rw [isKw_due, any_dec]
  have : dueS x ≠ Str.ofString "" := by simpa using h
  simp [this]
theorem word_no {x d : Str} (hd : d = dueS x) (h : (d != Str.ofString "") = false) : (d != Str.ofString "") = isKw x := by
  subst hd
  rw [isKw_due, h]
  have : dueS x = Str.ofString "" := by simpa using h
  simp [this]
theorem ne_self_bool (b : Bool) : (b != b) = false := by cases b <;> rfl
theorem ne_self_str (b : Str) : (b != b) = false := by simp
theorem ite_nb {b : Bool} {P Q : Prop} (h : Q) : if (b != b) = true then P else Q := by rw [ne_self_bool]; exact h
theorem ite_ns {b : Str} {P Q : Prop} (h : Q) : if (b != b) = true then P else Q := by rw [ne_self_str]; exact h
theorem empty_of {d : Str} (h : (d != Str.ofString "") = false) : d = Str.ofString "" := by simpa using h
theorem nonempty_of {d : Str} (h : (d != Str.ofString "") = true) : d ≠ Str.ofString "" := by simpa using h
theorem seen_flip (d : Str) : (Str.ofString "\\Seen" == d) = (d == Str.ofString "\\Seen") := by
  rw [Bool.eq_iff_iff, beq_iff_eq, beq_iff_eq]
  exact eq_comm
theorem ref_name {x : Str} (h : flagName x = none) : refusesS (Str.ofString "name") [x] := by
  unfold refusesS
  rw [if_pos rfl]
  exact ⟨x, [], rfl, h⟩
theorem ref_same {x : Str} (h : flagName x = none) : refusesS (Str.ofString "same") [x] := by
  unfold refusesS
  rw [if_neg (by decide), if_neg (by decide), if_pos rfl]
  exact ⟨x, [], rfl, h⟩
theorem ref_row {x : Str} (h : flagName x = none) : refusesS (Str.ofString "row") [Str.ofString "\\Seen", x] := by
  unfold refusesS
  rw [if_neg (by decide), if_pos rfl]
  unfold flagTup
  rw [mapM_none (.tail _ (.head _)) h]; rfl
theorem ref_way {x way : Str} (h : flagName x = none) (h1 : way ≠ Str.ofString "name") (h2 : way ≠ Str.ofString "row") (h3 : way ≠ Str.ofString "same") : refusesS way [x] := by
  unfold refusesS
  rw [if_neg h1, if_neg h2, if_neg h3]
  unfold afterT flagTup
  rw [mapM_none (.head _) h]; rfl
theorem one_short {x : Str} (h : x.length ≤ 200) : ∀ y ∈ [x], y.length ≤ 200 := fun _ hy => by rw [List.mem_singleton.mp hy]; exact h
theorem two_short {x : Str} (h : x.length ≤ 200) : ∀ y ∈ [Str.ofString "\\Seen", x], y.length ≤ 200 := fun y hy => by
  rcases List.mem_cons.mp hy with rfl | hy
  · decide
  · exact one_short h y hy
theorem ite_f1 {b : Bool} {P Q : Prop} (hb : b = false) (h : Q) : if b = true then P else Q := by rw [hb]; exact h
theorem ite_t1 {b : Bool} {P Q : Prop} (hb : b = true) (h : P) : if b = true then P else Q := by rw [hb]; exact h
end Mine
end
section
open PySem PySem.W PyProof.Rows PyProof.V PySem.Spec PySem.Calls PySem.SeqAt
set_option Elab.async false
set_option maxRecDepth 100000
namespace Mine

section
variable {w : World} {mean : ExcName → Option Value} {mg mb : Str → Option Value} {env : Env} {h₀ : Heap} {E : Value → Shared → Prop} {Q : Value → Shared → Prop} {s : Shared} {L : Addr} {m : Str → Option Value} {news : List (Addr × Obj)}
theorem due_step (X : (Mine.hd.heap_39 w.params).In h₀) (T : Top Mine.hd.view_39 (looseW Mine.hd.view_39 [Str.ofString "PostError"]) mean mg mb h₀)
    {x : Str} {tx : Tok} (F : Fr h₀ L s.heap m) (N : News h₀ L s.heap news) (hx : x.length ≤ 200)
    (h : ∀ h' tk t, Fr h₀ L h' m → News h₀ L h' news → Q (.str (dueS x) t) { s with heap := h', toks := tk }) :
    wpAny (model Challenge.rw_no0350_01.row.prog w) (callerA.deeper env) (call (.ref 141) [.str x tx]) Q E s := by
  refine call_due x tx hx w mean mg mb _ _ _ _ s Q E (X.keeps F.keep) (T.keeps F.keep) trivial (by decide) (by decide) ?_
  rintro v h' tk ⟨t, rfl⟩ hk
  exact h h' tk t (F.keeps hk) (N.keeps hk)
theorem sys_step (X : (Mine.hd.heap_39 w.params).In h₀) (T : Top Mine.hd.view_39 (looseW Mine.hd.view_39 [Str.ofString "PostError"]) mean mg mb h₀)
    (F : Fr h₀ L s.heap m) (N : News h₀ L s.heap news)
    (h : ∀ h' tk D vs n, StrsAre vs sysL → Fr h₀ L h' m → News h₀ L h' ((D, W.listOf (List.toArray vs) n) :: news) → Q (.ref D) { s with heap := h', toks := tk }) :
    wpAny (model Challenge.rw_no0350_01.row.prog w) (callerA.deeper env) (call (.ref 61) []) Q E s := by
  refine call_sys w mean mg mb _ _ _ _ s Q E (X.keeps F.keep) (T.keeps F.keep) trivial (by decide) (by decide) ?_
  rintro v h' tk ⟨D, vs, rfl, h0, ⟨n, hD⟩, hS⟩ hk
  exact h h' tk D vs n hS (F.keeps hk) (news_new F N hk h0 hD)
theorem ftup_step (X : (Mine.hd.heap_39 w.params).In h₀) (T : Top Mine.hd.view_39 (looseW Mine.hd.view_39 [Str.ofString "PostError"]) mean mg mb h₀) (K : Below callerA h₀ [] h₀)
    {D : Addr} {vs : List Value} {ls fs : List Str} (F : Fr h₀ L s.heap m) (N : News h₀ L s.heap news) (hf : env.frame = some L) (hk : env.scope.kind = .function)
    (hl : SqAt s.heap D vs) (hS : StrsAre vs ls) (hn : ls.length < 64) (hlen : ∀ x ∈ ls, x.length ≤ 200) (hr : flagTup ls = some fs)
    (h : ∀ h' tk R ws d n sl, StrsAre ws fs → Fr h₀ L h' m → News h₀ L h' ((R, tupO ws d n sl) :: news) → Q (.ref R) { s with heap := h', toks := tk }) :
    wpAny (model Challenge.rw_no0350_01.row.prog w) (callerA.deeper env) (call (.ref 89) [.ref D]) Q E s := by
  refine call_ftup D vs ls hS hn hlen w mean mg mb _ _ _ _ h₀ [env] s Q E (X.keeps F.keep) (T.keeps F.keep) hl (pushX K F hf hk) (by decide) (by decide) ?_ ?_
  · rintro v h' tk ⟨R, ws, fs', rfl, h0, hT, hS', hf'⟩ hk'
    obtain rfl : fs = fs' := by rw [hr] at hf'; exact Option.some.inj hf'
    obtain ⟨d, n, sl, N'⟩ := news_tup F N hk' h0 hT
    exact h h' tk R ws d n sl hS' (F.keeps hk') N'
  · intro hn
    rw [hr] at hn; cases hn
theorem flag_step (X : (Mine.hd.heap_39 w.params).In h₀) (T : Top Mine.hd.view_39 (looseW Mine.hd.view_39 [Str.ofString "PostError"]) mean mg mb h₀) (K : Below callerA h₀ [] h₀)
    {x d : Str} {tx : Tok} (F : Fr h₀ L s.heap m) (N : News h₀ L s.heap news) (hf : env.frame = some L) (hk : env.scope.kind = .function) (hx : x.length ≤ 200) (hr : flagName x = some d)
    (h : ∀ h' tk t, Fr h₀ L h' m → News h₀ L h' news → Q (.str d t) { s with heap := h', toks := tk }) :
    wpAny (model Challenge.rw_no0350_01.row.prog w) (callerA.deeper env) (call (.ref 75) [.str x tx]) Q E s := by
  refine call_flagName x tx hx w mean mg mb _ _ _ _ h₀ [env] s Q E (X.keeps F.keep) (T.keeps F.keep) trivial (pushX K F hf hk) (by decide) (by decide) ?_ ?_
  · rintro v h' tk ⟨y, t, rfl, hy⟩ hk'
    obtain rfl : d = y := by rw [hr] at hy; exact Option.some.inj hy
    exact h h' tk t (F.keeps hk') (N.keeps hk')
  · intro hn
    rw [hr] at hn; cases hn
theorem same_step (X : (Mine.hd.heap_39 w.params).In h₀) (T : Top Mine.hd.view_39 (looseW Mine.hd.view_39 [Str.ofString "PostError"]) mean mg mb h₀) (K : Below callerA h₀ [] h₀)
    {x d : Str} {t1 tx : Tok} (F : Fr h₀ L s.heap m) (N : News h₀ L s.heap news) (hf : env.frame = some L) (hk : env.scope.kind = .function) (hx : x.length ≤ 200) (hr : flagName x = some d)
    (h : ∀ h' tk, Fr h₀ L h' m → News h₀ L h' news → Q (.bool (d == Str.ofString "\\Seen")) { s with heap := h', toks := tk }) :
    wpAny (model Challenge.rw_no0350_01.row.prog w) (callerA.deeper env) (call (.ref 82) [.str (Str.ofString "\\SEEN") t1, .str x tx]) Q E s := by
  refine call_same (Str.ofString "\\SEEN") x t1 tx (by decide) hx w mean mg mb _ _ _ _ h₀ [env] s Q E (X.keeps F.keep) (T.keeps F.keep) trivial (pushX K F hf hk) (by decide) (by decide) ?_ ?_
  · rintro v h' tk ⟨a, b, rfl, ha, hb⟩ hk'
    obtain rfl : Str.ofString "\\Seen" = a := by rw [seen_upper] at ha; exact Option.some.inj ha
    obtain rfl : d = b := by rw [hr] at hb; exact Option.some.inj hb
    rw [seen_flip]
    exact h h' tk (F.keeps hk') (N.keeps hk')
  · intro hn
    rw [hr, seen_upper] at hn
    rcases hn with hn | hn <;> cases hn
end

/-- what a letter's dict holds -/
def EsOk (es : List DictEntry) (u o : Value) (T : Addr) (i m : Value) : Prop :=
  getL (Str.ofString "uid") es = some (some u) ∧ getL (Str.ofString "octets") es = some (some o) ∧ getL (Str.ofString "flags") es = some (some (.ref T)) ∧ getL (Str.ofString "instant") es = some (some i) ∧ getL (Str.ofString "modseq") es = some (some m) ∧ getL (Str.ofString "has") es = some none ∧ getL (Str.ofString "told") es = some none
theorem letter_of {h₀ h : Heap} {L x dx : Addr} {es : List DictEntry} {n : Nat} {u o i m : Value} {T : Addr} {news : List (Addr × Obj)} (N : News h₀ L h news) (hx : (x, instObj 120 dx) ∈ news) (hd : (dx, dictOf es n) ∈ news) (ok : EsOk es u o T i m) : LetterAt h x u o T i m :=
  ⟨dx, es, n, (N _ hx).1, (N _ hd).1, ok⟩

set_option maxHeartbeats 8000000 in
theorem call_letterD (u i m : Int) (tu ti tm tb : Tok) (o : Array UInt8) (T : Addr) (ws : List Value) : Con 120 [.int u tu, .bytes o tb, .ref T, .int i ti, .int m tm] 2 (fun h => h.IsTuple T ws.toArray) (fun g v h => ∃ x dx es n, v = .ref x ∧ g.get? x = none ∧ g.get? dx = none ∧ h.get? x = some (instObj 120 dx) ∧ h.get? dx = some (dictOf es n) ∧ EsOk es (.int u tu) (.bytes o tb) T (.int i ti) (.int m tm)) := by
  w_top off
  unfold Con
  k_fill
  intro w mean mg mb dp un fr gd s Q E X TT hT hd hu hret
  obtain ⟨hp, gg, d, t, os⟩ := s
  have hmk : makesIn (Mine.hd.heap_39 w.params) 120 = true := by k_dflt k_is
  have hfi : findIn (Mine.hd.heap_39 w.params) (.ref 120) "__init__" = some (some (.ref 103)) := by k_dflt k_is
  have hfn : typeIn (Mine.hd.heap_39 w.params) (.ref 103) = some (.type "function") := by k_dflt k_is
  refine wpAny_call (make_core (makes_of X hmk) (looks_findIn X hfi) (fun self => bind_fn X self hfn) (.inl rfl) ?_)
  have k0 : Kp hp ((hp.push emptyDict).push (instObj 120 hp.objs.size)) := fun b o e => Heap.get?_push_of_some _ (Heap.get?_push_of_some _ e)
  have hx : ((hp.push emptyDict).push (instObj 120 hp.objs.size)).get? (hp.objs.size + 1) = some (instObj 120 hp.objs.size) := by heap_get
  have hdx : ((hp.push emptyDict).push (instObj 120 hp.objs.size)).get? hp.objs.size = some (dictOf [] 0) := by heap_get
  k_dflt (refine' enterN (s := ⟨(hp.push emptyDict).push (instObj 120 hp.objs.size), gg, d, t, os⟩) [(hp.objs.size + 1, instObj 120 hp.objs.size), (hp.objs.size, dictOf [] 0)] [(Str.ofString "self", .ref (hp.objs.size + 1)), (Str.ofString "uid", .int u tu), (Str.ofString "octets", .bytes o tb), (Str.ofString "flags", .ref T), (Str.ofString "instant", .int i ti), (Str.ofString "modseq", .int m tm)] k0 ?hN X TT ?k6 ?k7 ?k8 ?k9 ?kB ?_ ?c2 ?c3 ?c4 ?c5; (case k6 => k_is); (case k7 => k_is); (case k8 => rw [depth_under_make]; (show dp + 1 < 1000); omega); (case k9 => exact BindsTo.of_eq rfl); (case c5 => decide); (case kB => exact locs rfl); (case c2 => exact rfl); (case c3 => exact rfl); (case c4 => exact rfl))
  · intro p hp'
    simp only [List.mem_cons, List.not_mem_nil, or_false] at hp'
    rcases hp' with rfl | rfl
    · exact ⟨hx, none_of_size (Nat.le_succ _)⟩
    · exact ⟨hdx, none_of_size (Nat.le_refl _)⟩
  intro g h₁ kg X TT F N
  have hT' : g.IsTuple T ws.toArray := hT.at fun o e => kg _ o e
  dsimp only [bm, List.foldl] at F ⊢
  (try k_fold)
  k_steps
  rename Fr _ _ _ _ => F₁
  rename News _ _ _ _ => N₁
  exact ⟨rfl, hret _ _ _ ⟨_, _, _, _, rfl, none_of_size (Nat.le_succ _), none_of_size (Nat.le_refl _), (N₁ _ (.head _)).1, (N₁ _ (.tail _ (.head _))).1, rfl, rfl, rfl, rfl, rfl, rfl, rfl⟩ fun b o q => F₁.keep _ _ (kg _ _ q)⟩

set_option maxHeartbeats 8000000 in
theorem call_has (x T : Addr) (u o i m : Value) (y : Str) (ty : Tok) (ws : List Value) (fs : List Str) (hW : StrsAre ws fs) : Con 110 [.ref x, .str y ty] 1 (fun h => LetterAt h x u o T i m ∧ h.IsTuple T ws.toArray) (fun _ v _ => v = .bool (decide (y ∈ fs))) := by
  w_top off
  unfold Con
  k_fill
  intro w mean mg mb dp un fr gd s Q E X TT hpre hd hu hret
  obtain ⟨hL, hT⟩ := hpre
  refine wpAny_call ?_
  k_dflt (refine' enter0 [(Str.ofString "self", .ref x), (Str.ofString "name", .str y ty)] ?k1 ?k2 ?k6 ?k7 ?k8 ?k9 ?kB ?_ ?c2 ?c3 ?c4 ?c5; (case k1 => exact X); (case k2 => exact TT); (case k6 => k_is); (case k7 => k_is); (case k8 => (show dp < 1000); omega); (case k9 => exact BindsTo.of_eq rfl); (case c5 => decide); (case kB => exact locs rfl); (case c2 => exact rfl); (case c3 => exact rfl); (case c4 => exact rfl))
  intro h₁ F N
  dsimp only [bm, List.foldl] at F ⊢
  (try k_fold)
  k_steps
  rename Fr _ _ _ _ => F₁
  refine letter_flags F₁ X (hL.keeps F₁.keep) ?_
  (try dsimp only)
  refine in_strs (.inr (hT.at fun o e => F₁.keep _ _ e)) hW ?_
  (try dsimp only)
  k_steps
  (try dsimp only)
  exact hret _ _ _ rfl (Fr.keep (by assumption))

set_option maxHeartbeats 8000000 in
theorem call_told (x T : Addr) (u i m : Int) (o : Array UInt8) (tu ti tm tb : Tok) : Con 117 [.ref x] 1 (fun h => LetterAt h x (.int u tu) (.bytes o tb) T (.int i ti) (.int m tm)) (fun g v h => ∃ R, v = .ref R ∧ g.get? R = none ∧ h.IsTuple R #[.int u tu, .bytes o tb, .ref T, .int i ti, .int m tm]) := by
  w_top off
  unfold Con
  k_fill
  intro w mean mg mb dp un fr gd s Q E X TT hL hd hu hret
  refine wpAny_call ?_
  k_dflt (refine' enter0 [(Str.ofString "self", .ref x)] ?k1 ?k2 ?k6 ?k7 ?k8 ?k9 ?kB ?_ ?c2 ?c3 ?c4 ?c5; (case k1 => exact X); (case k2 => exact TT); (case k6 => k_is); (case k7 => k_is); (case k8 => (show dp < 1000); omega); (case k9 => exact BindsTo.of_eq rfl); (case c5 => decide); (case kB => exact locs rfl); (case c2 => exact rfl); (case c3 => exact rfl); (case c4 => exact rfl))
  intro h₁ F N
  dsimp only [bm, List.foldl] at F ⊢
  (try k_fold)
  k_steps
  rename Fr _ _ _ _ => F₁
  refine letter_uid F₁ X (hL.keeps F₁.keep) rfl ?_
  (try dsimp only)
  k_steps
  rename Fr _ _ _ _ => F₂
  refine letter_octets F₂ X (hL.keeps F₂.keep) rfl ?_
  (try dsimp only)
  k_steps
  rename Fr _ _ _ _ => F₃
  refine letter_flags F₃ X (hL.keeps F₃.keep) ?_
  (try dsimp only)
  k_steps
  rename Fr _ _ _ _ => F₄
  refine letter_instant F₄ X (hL.keeps F₄.keep) rfl ?_
  (try dsimp only)
  k_steps
  rename Fr _ _ _ _ => F₅
  refine letter_modseq F₅ X (hL.keeps F₅.keep) rfl ?_
  (try dsimp only)
  k_steps
  rename Fr _ _ _ _ => F₆
  rename News _ _ _ _ => N₆
  exact hret _ _ _ ⟨_, rfl, (N₆ _ (.head _)).2.2, N₆.isTup (.head _)⟩ F₆.keep

theorem good_take {l : List Str} {i : Nat} {x : Str} (hx : l[i]? = some x) : goodS (l.take (i + 1)) = goodS (l.take i) ++ (if (dueS x != Str.ofString "") = true then [x] else []) := by
  unfold goodS
  rw [List.take_add_one, hx, List.filter_append]
  congr 1
  simp only [Option.toList_some, List.filter_cons, List.filter_nil]
  by_cases h : dueS x = Str.ofString "" <;> simp [h]
theorem good_yes {l : List Str} {i : Nat} {x : Str} (hx : l[i]? = some x) (h : (dueS x != Str.ofString "") = true) : goodS (l.take (i + 1)) = goodS (l.take i) ++ [x] := by rw [good_take hx, if_pos h]
theorem good_no {l : List Str} {i : Nat} {x : Str} (hx : l[i]? = some x) (h : (dueS x != Str.ofString "") = false) : goodS (l.take (i + 1)) = goodS (l.take i) := by rw [good_take hx, if_neg (by rw [h]; decide), List.append_nil]

section
variable {prog : Program} {w : World} {A : Around} {E : Value → Shared → Prop} {s : Shared} {h₀ : Heap} {L : Addr} {m : Str → Option Value} {news : List (Addr × Obj)} {Q : Value → Shared → Prop}
theorem sorted_step {D : Addr} {vs : List Value} {ss : List Str} (F : Fr h₀ L s.heap m) (N : News h₀ L s.heap news) (hl : s.heap.IsList D vs.toArray) (hS : StrsAre vs ss) (hn : ss.length < 64)
    (h : ∀ h' R ws d n sl, StrsAre ws (sortS ss) → Fr h₀ L h' m → News h₀ L h' ((R, lisO ws d n sl) :: news) → Q (.ref R) { s with heap := h' }) :
    wpAny (model prog w) A (call (.builtin "sorted") [.ref D]) Q E s := by
  refine sorted_N_str F N hl hS (by rw [hS.length]; exact hn) fun h' ws ss' e F' N' hS' hp hso => ?_
  exact h h' _ ws none e #[] (sortS_uniq hp hso ▸ hS') F' N'
theorem tuple_step {D : Addr} {vs : List Value} (F : Fr h₀ L s.heap m) (N : News h₀ L s.heap news) (hl : s.heap.IsList D vs.toArray) (hn : vs.length < 1000)
    (h : ∀ h' R d n sl, Fr h₀ L h' m → News h₀ L h' ((R, tupO vs d n sl) :: news) → Q (.ref R) { s with heap := h' }) :
    wpAny (model prog w) A (call (.type "tuple") [.ref D]) Q E s := by
  refine call_tuple_list (hsz := by rw [List.size_toArray, sizeLine_eq]; omega) (items := vs.toArray) hl fun h₆ hk => ?_
  have kk : Kp s.heap (h₆.push { cls := .type "tuple", data := .seq vs.toArray }) := fun b o q => Heap.get?_push_of_some _ (hk _ _ q)
  refine h _ _ none 0 #[] (F.keeps kk) (news_new F N kk (Kp.none (h' := h₆) hk (none_of_size (Nat.le_refl _))) (Heap.get?_push_size _ rfl))
theorem eqs_of {vs ws : List Value} {ss : List Str} (h1 : StrsAre vs ss) (h2 : StrsAre ws ss) (A : Around) (s : Shared) : ∀ j (h1 : j < vs.toArray.size) (h2 : j < ws.toArray.size), EqAt A s vs.toArray[j] ws.toArray[j] true := by
  intro j a b
  have a' : j < vs.length := by simpa using a
  have b' : j < ws.length := by simpa using b
  obtain ⟨x, t, hx, hs⟩ := h1.item j vs[j] (List.getElem?_eq_getElem a')
  obtain ⟨y, u, hy, hs'⟩ := h2.item j ws[j] (List.getElem?_eq_getElem b')
  rw [hs] at hs'
  cases hs'
  have e1 : vs.toArray[j] = .str x t := by simpa using hx
  have e2 : ws.toArray[j] = .str x u := by simpa using hy
  rw [e1, e2]
  have := (eqGives_str x x t u).at A s
  simpa using this
theorem all_true (k : Nat) : (List.range k).all (fun _ => true) = true := by simp
theorem ne_tups {a b : Addr} {vs ws : List Value} {ss : List Str} (ha : s.heap.IsTuple a vs.toArray) (hb : s.heap.IsTuple b ws.toArray) (h1 : StrsAre vs ss) (h2 : StrsAre ws ss) (hu : A.units < cLine) (h : Q (.bool false) s) :
    wpAny (model prog w) A (compareOp .NotEq (.ref a) (.ref b)) Q E s := by
  refine cmp_ofNotEq (RcNeAt.tuples (e := fun _ => true) ha hb hu (eqs_of h1 h2 _ _) prog w E Q ?_)
  have e : (vs.toArray.size == ws.toArray.size) = true := by simp [h1.length, h2.length]
  rw [all_true, e]
  exact h
theorem ne_lists {a b : Addr} {vs ws : List Value} {ss : List Str} (ha : s.heap.IsList a vs.toArray) (hb : s.heap.IsList b ws.toArray) (h1 : StrsAre vs ss) (h2 : StrsAre ws ss) (hu : A.units < cLine) (h : Q (.bool false) s) :
    wpAny (model prog w) A (compareOp .NotEq (.ref a) (.ref b)) Q E s := by
  refine cmp_ofNotEq (RcNeAt.lists (e := fun _ => true) ha hb (by simp [h1.length, h2.length]) hu (eqs_of h1 h2 _ _) prog w E Q ?_)
  rw [all_true]
  exact h
end
section
variable {w : World} {mean : ExcName → Option Value} {mg mb : Str → Option Value} {env : Env} {h₀ : Heap} {E : Value → Shared → Prop} {Q : Value → Shared → Prop} {s : Shared} {L : Addr} {m : Str → Option Value} {news : List (Addr × Obj)}
theorem after_step (X : (Mine.hd.heap_39 w.params).In h₀) (TT : Top Mine.hd.view_39 (looseW Mine.hd.view_39 [Str.ofString "PostError"]) mean mg mb h₀) (K : Below callerA h₀ [] h₀)
    {x T D : Addr} {u o i mm : Value} {ws vs : List Value} {fs ls rs : List Str} {way : Str} {tw : Tok} (F : Fr h₀ L s.heap m) (N : News h₀ L s.heap news) (hf : env.frame = some L) (hk : env.scope.kind = .function)
    (hL : LetterAt s.heap x u o T i mm) (hT : s.heap.IsTuple T ws.toArray) (hl : SqAt s.heap D vs) (hW : StrsAre ws fs) (hfl : ∀ x ∈ fs, x.length ≤ 200) (hS : StrsAre vs ls) (hlen : ∀ x ∈ ls, x.length ≤ 200) (hn : fs.length + ls.length < 64)
    (hr : afterT way ls fs = some rs)
    (h : ∀ h' tk R ws d n sl, StrsAre ws rs → Fr h₀ L h' m → News h₀ L h' ((R, tupO ws d n sl) :: news) → Q (.ref R) { s with heap := h', toks := tk }) :
    wpAny (model Challenge.rw_no0350_01.row.prog w) (callerA.deeper env) (call (.ref 129) [.ref x, .str way tw, .ref D]) Q E s := by
  refine call_after x u o i mm T ws fs way tw D vs ls hW hfl hS hlen hn w mean mg mb _ _ _ _ h₀ [env] s Q E (X.keeps F.keep) (TT.keeps F.keep) ⟨hL, hT, hl⟩ (pushX K F hf hk) (by decide) (by decide) ?_ ?_
  · rintro v h' tk ⟨R, ws, fs', rfl, h0, hT, hS', hf'⟩ hk'
    obtain rfl : rs = fs' := by rw [hr] at hf'; exact Option.some.inj hf'
    obtain ⟨d, n, sl, N'⟩ := news_tup F N hk' h0 hT
    exact h h' tk R ws d n sl hS' (F.keeps hk') N'
  · intro hn
    rw [hr] at hn; cases hn
theorem letter_step (X : (Mine.hd.heap_39 w.params).In h₀) (TT : Top Mine.hd.view_39 (looseW Mine.hd.view_39 [Str.ofString "PostError"]) mean mg mb h₀)
    {T : Addr} {u i mm : Int} {tu ti tm tb : Tok} {o : Array UInt8} {ws : List Value} (F : Fr h₀ L s.heap m) (N : News h₀ L s.heap news) (hT : s.heap.IsTuple T ws.toArray)
    (h : ∀ h' tk x dx es n, EsOk es (.int u tu) (.bytes o tb) T (.int i ti) (.int mm tm) → Fr h₀ L h' m → News h₀ L h' ((x, instObj 120 dx) :: (dx, dictOf es n) :: news) → Q (.ref x) { s with heap := h', toks := tk }) :
    wpAny (model Challenge.rw_no0350_01.row.prog w) (callerA.deeper env) (call (.ref 120) [.int u tu, .bytes o tb, .ref T, .int i ti, .int mm tm]) Q E s := by
  refine call_letterD u i mm tu ti tm tb o T ws w mean mg mb _ _ _ _ s Q E (X.keeps F.keep) (TT.keeps F.keep) hT (by decide) (by decide) ?_
  rintro v h' tk ⟨x, dx, es, n, rfl, h0, h1, hx, hd, ok⟩ hk'
  refine h h' tk x dx es n ok (F.keeps hk') ?_
  intro p hp
  rcases List.mem_cons.mp hp with rfl | hp
  · exact news_new F N hk' h0 hx _ (.head _)
  · exact news_new F N hk' h1 hd _ hp
theorem told_step (X : (Mine.hd.heap_39 w.params).In h₀) (TT : Top Mine.hd.view_39 (looseW Mine.hd.view_39 [Str.ofString "PostError"]) mean mg mb h₀)
    {x T : Addr} {u i mm : Int} {tu ti tm tb : Tok} {o : Array UInt8} (F : Fr h₀ L s.heap m) (N : News h₀ L s.heap news) (hL : LetterAt s.heap x (.int u tu) (.bytes o tb) T (.int i ti) (.int mm tm))
    (h : ∀ h' tk R d n sl, Fr h₀ L h' m → News h₀ L h' ((R, tupO [.int u tu, .bytes o tb, .ref T, .int i ti, .int mm tm] d n sl) :: news) → Q (.ref R) { s with heap := h', toks := tk }) :
    wpAny (model Challenge.rw_no0350_01.row.prog w) (callerA.deeper env) (call (.ref 117) [.ref x]) Q E s := by
  refine call_told x T u i mm o tu ti tm tb w mean mg mb _ _ _ _ s Q E (X.keeps F.keep) (TT.keeps F.keep) hL (by decide) (by decide) ?_
  rintro v h' tk ⟨R, rfl, h0, hT⟩ hk'
  obtain ⟨d, n, sl, N'⟩ := news_tup (vs := [.int u tu, .bytes o tb, .ref T, .int i ti, .int mm tm]) F N hk' h0 hT
  exact h h' tk R d n sl (F.keeps hk') N'
end
theorem strs_rev : ∀ {vs : List Value} {ss : List Str}, StrsAre vs ss → StrsAre vs.reverse ss.reverse
  | _, _, .nil => .nil
  | _, _, .cons y t r => by
    rw [List.reverse_cons, List.reverse_cons]
    exact strs_snoc (strs_rev r) y t
theorem twice_short {l : List Str} (h : ∀ x ∈ l, x.length ≤ 200) : ∀ x ∈ l ++ l.reverse, x.length ≤ 200 := fun x hx => (List.mem_append.mp hx).elim (h x) fun q => h x (List.mem_reverse.mp q)
theorem app_short {l k : List Str} (h : ∀ x ∈ l, x.length ≤ 200) (h' : ∀ x ∈ k, x.length ≤ 200) : ∀ x ∈ l ++ k, x.length ≤ 200 := fun x hx => (List.mem_append.mp hx).elim (h x) (h' x)
theorem law_units (env : Env) : (callerA.deeper env).units < cLine := by
  show callerA.units + 3 < cLine
  decide
theorem stop_cmp {prog : Program} {w : World} {A : Around} {c : CmpOp} {a b : Value} {Q : Value → Shared → Prop} {E : Value → Shared → Prop} {s : Shared} (h : Stop (wpAny (model prog w) A (compareOp c a b) Q E s)) : wpAny (model prog w) A (compareOp c a b) Q E s := h
theorem even_of {i : Nat} (h : (i : Int).fmod 2 = 0) : i % 2 = 0 := by
  rw [Int.fmod_eq_emod_of_nonneg _ (by decide)] at h
  omega
theorem odd_of {i : Nat} (h : (i : Int).fmod 2 ≠ 0) : ¬ i % 2 = 0 := by
  rw [Int.fmod_eq_emod_of_nonneg _ (by decide)] at h
  omega
theorem ne_cell {h₀ h : Heap} {L a c : Addr} {o oc : Obj} {news : List (Addr × Obj)} {v : Option Value} (N : News h₀ L h news) (ha : (a, o) ∈ news) (hc : (c, oc) ∈ news) (hd : oc.data = .cell v) (ho : ∀ v, o.data ≠ .cell v) : @Ne Nat a c := by
  intro e
  have e : a = c := e
  subst e
  have h1 := (N _ ha).1
  have h2 := (N _ hc).1
  dsimp only at h1 h2
  rw [h1] at h2
  cases h2
  exact ho _ hd
theorem lst_nc (ys : List Value) (n : Nat) (d : Option Addr) (sl : Array (Option Value)) : ∀ v, (lisO ys d n sl).data ≠ .cell v := fun _ h => nomatch h
/-- the mark: slices are walked by hand from here on -/
def SliceMark : Prop := True
theorem stop_sub' {prog : Program} {w : World} {A : Around} {v e : Expr} {a b : Value} {Q : Value → Shared → Prop} {E : Value → Shared → Prop} {s : Shared} (_ : SliceMark) (h : Stop (wpAny (model prog w) A (subscriptTail v e a b) Q E s)) : wpAny (model prog w) A (subscriptTail v e a b) Q E s := h
theorem stop_add' {prog : Program} {w : World} {A : Around} {c : Operator} {a b : Value} {Q : Value → Shared → Prop} {E : Value → Shared → Prop} {s : Shared} (_ : SliceMark) (h : Stop (wpAny (model prog w) A (binaryOp c a b) Q E s)) : wpAny (model prog w) A (binaryOp c a b) Q E s := h
theorem ref_star (l : List Str) : refusesS (Str.ofString "*") (goodS l) := by
  unfold refusesS
  rw [if_neg (by decide), if_neg (by decide), if_neg (by decide)]
  exact after_star l
section
variable {prog : Program} {w : World} {A : Around} {E : Value → Shared → Prop} {s : Shared} {Q : Value → Shared → Prop}
theorem eq_told {a b T R : Addr} {vs ws : List Value} {ss : List Str} {t1 t2 t3 t4 u1 u2 u3 u4 : Tok} {x y z : Int} {o : Array UInt8}
    (ha : s.heap.IsTuple a (List.toArray [.int x t1, .bytes o t2, .ref T, .int y t3, .int z t4])) (hb : s.heap.IsTuple b (List.toArray [.int x u1, .bytes o u2, .ref R, .int y u3, .int z u4])) (hT : s.heap.IsTuple T vs.toArray) (hR : s.heap.IsTuple R ws.toArray)
    (h1 : StrsAre vs ss) (h2 : StrsAre ws ss) (hu : A.units < cLine) (hu' : A.in1.units < cLine) (h : Q (.bool true) s) :
    wpAny (model prog w) A (compareOp .Eq (.ref a) (.ref b)) Q E s := by
  refine cmp_ofEq (RcAt.tuples (e := fun _ => true) ha hb hu (fun j p q => ?_) prog w E Q ?_)
  · have p' : j < 5 := by simpa using p
    have hint : ∀ (i : Int) (t u : Tok), EqAt A.in1 s (.int i t) (.int i u) true := fun i t u => by
      have := EqAt.int_int (A := A.in1) (s := s) i t i u
      simpa using this
    match j, p' with
    | 0, _ => exact hint x t1 u1
    | 1, _ => exact fun prog w E Q hq => eqBool_bytes (by simpa using hq)
    | 2, _ =>
      by_cases e : T = R
      · subst e; exact EqAt.same _
      · refine EqAt.of_refs e ?_
        have := RcAt.tuples (A := A.in1) (e := fun _ => true) hT hR hu' (eqs_of h1 h2 _ _)
        have e2 : (vs.toArray.size == ws.toArray.size) = true := by simp [h1.length, h2.length]
        rw [all_true, e2] at this
        exact this
    | 3, _ => exact hint y t3 u3
    | 4, _ => exact hint z t4 u4
  · rw [all_true]
    exact h
end
theorem law_units1 (env : Env) : (callerA.deeper env).in1.units < cLine := by
  show callerA.units + 3 + 1 < cLine
  decide
theorem stop_meth {prog : Program} {w : World} {A : Around} {v : Value} {x : Str} {pl : Sem Bool} {Q : Value × List Value → Shared → Prop} {E : Value → Shared → Prop} {s : Shared} (_ : SliceMark) (h : Stop (wpAny (model prog w) A (getMethod v x pl) Q E s)) : wpAny (model prog w) A (getMethod v x pl) Q E s := h
section
variable {w : World} {mean : ExcName → Option Value} {mg mb : Str → Option Value} {env : Env} {h₀ : Heap} {E : Value → Shared → Prop} {Q : Value → Shared → Prop} {s : Shared} {L : Addr} {m : Str → Option Value} {news : List (Addr × Obj)}
theorem has_step (X : (Mine.hd.heap_39 w.params).In h₀) (TT : Top Mine.hd.view_39 (looseW Mine.hd.view_39 [Str.ofString "PostError"]) mean mg mb h₀)
    {x T : Addr} {u o i mm : Value} {y : Str} {ty : Tok} {ws : List Value} {fs : List Str} (F : Fr h₀ L s.heap m) (N : News h₀ L s.heap news) (hL : LetterAt s.heap x u o T i mm) (hT : s.heap.IsTuple T ws.toArray) (hW : StrsAre ws fs) (hy : y ∈ fs)
    (h : ∀ h' tk, Fr h₀ L h' m → News h₀ L h' news → Q (.bool true) { s with heap := h', toks := tk }) :
    wpAny (model Challenge.rw_no0350_01.row.prog w) (callerA.deeper env) (call (.ref 110) [.ref x, .str y ty]) Q E s := by
  refine call_has x T u o i mm y ty ws fs hW w mean mg mb _ _ _ _ s Q E (X.keeps F.keep) (TT.keeps F.keep) ⟨hL, hT⟩ (by decide) (by decide) ?_
  rintro v h' tk rfl hk
  rw [decide_eq_true hy]
  exact h h' tk (F.keeps hk) (N.keeps hk)
end
end Mine
end
section
open PySem PySem.W PyProof.Rows PyProof.V PySem.Spec PySem.Calls PySem.SeqAt
set_option Elab.async false
set_option maxRecDepth 100000
namespace Mine
local macro_rules | `(tactic| walk_at "storeName") => `(tactic| (k_here; (with_reducible show wpAny _ _ (storeName (compEnvC _ _ _ _) _ _) _ _ _); k_dflt (refine c_store (by k_asm) (by k_asm) ?_ (by rfl) (by rfl)); k_whole; intro h' F' N'))
local macro_rules | `(tactic| walk_at "eval Name") => `(tactic| (k_here; (with_reducible show wpAny _ _ (eval (Expr.Name _ _) (compEnvC _ _ _ _)) _ _ _); k_dflt (first
  | refine c_local (by k_asm) (by rfl) ?_ (by rfl) (by rfl) (by decide)
  | refine c_cell (by k_asm) (by rfl) (by assumption) ?_ (by rfl) (by rfl) (by decide)
  | refine LCgL.ld_global (by k_asm) (by k_asm) (by k_asm) (by k_is) ?_
  | refine LCgL.ld_built (by k_asm) (by k_asm) (by k_asm) (by k_is) (by boot_by_name) (by decide) ?_); k_whole))
local macro_rules | `(tactic| walk_at "eval ListComp") => `(tactic| (k_here; k_dflt (refine comp_go (by rfl) (by decide) (by rfl) (by decide) ?_ (by intro _; rfl))))
local macro_rules | `(tactic| walk_at "exec Assign cons ListComp") => `(tactic| (k_here; k_dflt (first | refine wpAny_Assign_Name ?_ (by with_unfolding_all rfl) | refine comp_assign (by k_asm) (by with_unfolding_all rfl) (by rfl) (by rfl) (by rfl) (by decide) (by rfl) (by decide) ?_ (by intro _; rfl))))
local macro_rules | `(tactic| walk_at "exec For Tuple Call") => `(tactic| (k_here; (rename Fr _ _ _ _ => lF'); (with_unfolding_all refine' For_turns lF' ?_; k_whole)))
local macro_rules | `(tactic| walk_at "call type:zip") => `(tactic| (k_here; (rename News _ _ _ _ => zN'); k_dflt (first
  | (refine for_zip rfl (News.isList zN' (.tail _ (.head _))) (News.isList zN' (.head _)) ?_)
  | (refine compA_zip rfl (News.isList zN' (.tail _ (.head _))) (News.isList zN' (.head _)) ?_))))
local macro_rules | `(tactic| walk_at "call ref") => `(tactic| (k_here; (refine stop_call ?_)))
local macro_rules | `(tactic| walk_at "ite") => `(tactic| (k_here; (first | refine ite_nb ?_ | refine ite_ns ?_ | (refine' ite_f1 ?hb ?_; (case hb => with_reducible assumption)) | (refine' ite_t1 ?hb ?_; (case hb => with_reducible assumption)))))
local macro_rules | `(tactic| walk_at "exec For Name Name cons nil") => `(tactic| (k_here; (rename Fr _ _ _ _ => lF'); (with_unfolding_all refine' For_turns lF' ?_; k_whole)))
local macro_rules | `(tactic| walk_at "compareOp NotEq ref ref") => `(tactic| (k_here; (refine stop_cmp ?_)))
local macro_rules | `(tactic| walk_at "compareOp Eq ref ref") => `(tactic| (k_here; (refine stop_cmp ?_)))
local macro_rules | `(tactic| walk_at "subscriptTail Name Slice ref ref") => `(tactic| (k_here; (refine stop_sub' (by with_reducible assumption) ?_)))
local macro_rules | `(tactic| walk_at "binaryOp Add ref ref") => `(tactic| (k_here; (refine stop_add' (by with_reducible assumption) ?_)))
local macro_rules | `(tactic| walk_at "getMethod ref") => `(tactic| (k_here; (refine stop_meth (by with_reducible assumption) ?_)))
set_option maxHeartbeats 80000000 in
theorem call_law (l : Addr) (vs : List Value) (ns : List Int) (hI : IntsAre vs ns) (hlen : ns.length ≤ 63) (w : World) (mean : ExcName → Option Value) (mg mb : Str → Option Value) (s : Shared) (R : Result → Shared → Prop)
    (X : (Mine.hd.heap_39 w.params).In s.heap) (T : Top Mine.hd.view_39 (looseW Mine.hd.view_39 [Str.ofString "PostError"]) mean mg mb s.heap) (hl : s.heap.IsList l vs.toArray)
    (hret : ∀ h' tk, Kp s.heap h' → R (.ok (.ret (.bool true))) { s with heap := h', toks := tk }) :
    codeAny (model Challenge.rw_no0350_01.row.prog w) callerA (.call (.ref 153) ⟨[.ref l], []⟩) R s := by
  w_top off
  revert X; k_fill; intro X
  have K := below_caller s.heap
  k_dflt (refine' enterC (binds := [(Str.ofString "script", .ref l)]) ?k1 ?k2 ?k6 ?k7 ?k8 ?k9 ?kB ?kD ?_ ?c2 ?c3 ?c4; (case k1 => exact X); (case k2 => exact T); (case k6 => k_is); (case k7 => k_is); (case k8 => decide); (case k9 => exact BindsTo.of_eq rfl); (case kB => exact rfl); (case kD => decide +kernel); (case c2 => exact rfl); (case c3 => exact rfl); (case c4 => exact rfl))
  intro h₁ tk₁ cells F N Y
  k_cells Y
  (try simp only [List.cons_append, List.nil_append] at N)
  have F : Fr s.heap s.heap.objs.size h₁ (fun y => if y = Str.ofString "script" then some (.ref l) else none) := F
  (try dsimp only)
  (try k_fold)
  k_steps
  -- texts (the kit walks script[:8] by itself)
  rename Fr _ _ _ _ => F₂
  rename News _ _ _ _ => N₂
  rename IntsAre _ (List.take 8 ns) => hIw
  refine wpAny_mono (it_list rfl (N₂.isList (.head _))) (fun it s₂ G => ⟨_, _, _, _, fun i ys => ∃ zs, StrsAre ys zs ∧ (∀ z ∈ zs, z.length ≤ 200) ∧ zs.length ≤ i, G, ?_, ?_, ⟨[], .nil, (fun _ h => nomatch h), Nat.le_refl _⟩, ?_, ?_⟩) (fun _ _ e => e)
  · rw [List.size_toArray, hIw.length, List.length_take, sizeLine_eq]; omega
  · rintro i ys ⟨zs, hz, _, hl⟩
    rw [hz.length]; exact hl
  · rintro i v C m₁ h tk own ys E' hi hP ⟨zs, hz, hz2, hzl⟩ F N
    obtain ⟨n, tn, rfl, hn⟩ := hIw.at i v (by simpa using hP)
    have Xb := X.keeps F₂.keep
    have Tb := T.keeps F₂.keep
    k_steps
    rename Fr _ _ _ _ => F'
    rename News _ _ _ _ => N'
    refine' call_text n tn w mean mg mb _ _ _ _ _ _ _ ?X ?T trivial ?D ?U ?_; (case X => exact Xb.keeps F'.keep); (case T => exact Tb.keeps F'.keep); (case D => decide); (case U => decide)
    rintro v h' tk' ⟨y, t, rfl, hy⟩ hk
    refine CE.fin (F'.keeps hk) (N'.keeps hk) ⟨zs ++ [y], strs_snoc hz _ _, ?_, by rw [List.length_append, List.length_singleton]; omega⟩
    intro z hz'
    rcases List.mem_append.mp hz' with hz' | hz'
    · exact hz2 z hz'
    · rw [List.mem_singleton.mp hz']; exact hy
  rintro D ys h tk ⟨zs, hz, hz2, hzl⟩ hD0 hD hk₄
  have F₃ := F₂.keeps hk₄
  have N₃ : News _ _ h [(D, lstO ys), _, _] := news_new F₂ (fun p hp => N₂ p (.tail _ hp)) hk₄ hD0 hD
  rw [List.size_toArray, hIw.length, List.length_take] at hzl
  clear N₂ F₂ hIw
  (try dsimp only)
  k_steps
  rename Heap => hB
  rename Fr _ _ _ _ => F₄
  rename News _ _ _ _ => N₄
  have hz' := strs_snoc hz (Str.ofString "\\sEEN") tk
  refine add_lists (vs := ys) (ws := [Value.str (Str.ofString "\\sEEN") tk]) F₄ N₄ (N₄.isList (.tail _ (.head _))) (N₄.isList (.head _)) (fun h₅ F₅ N₅ => ?_) (by rw [hz.length, sizeLine_eq]; simp; omega)
  have N₅ := drop1 (drop1 N₅)
  have htl : (zs ++ [Str.ofString "\\sEEN"]).length ≤ 9 := by rw [List.length_append, List.length_singleton]; omega
  have hts : ∀ x ∈ zs ++ [Str.ofString "\\sEEN"], x.length ≤ 200 := fun x hx => (List.mem_append.mp hx).elim (hz2 x) fun q => by rw [List.mem_singleton.mp q]; decide
  dsimp only at N₅ ⊢
  generalize hB.objs.size = TX at N₅ ⊢
  generalize zs ++ [Str.ofString "\\sEEN"] = tl at hz' htl hts
  generalize ys ++ [Value.str (Str.ofString "\\sEEN") tk] = tvs at hz' N₅
  clear N₄ F₄ hD hD0 hk₄ hz hz2 hzl
  k_steps
  rename Fr _ _ _ _ => F₆
  rename News _ _ _ _ => N₆
  refine wpAny_mono (it_list rfl (N₆.isList (.head _))) (fun it s₂ G => ⟨_, _, _, _, fun i ys => StrsAre ys ((tl.take i).map dueS) ∧ ys.length ≤ i, _, G, F₆, ?_, fun i ys h => h.2, ⟨.nil, Nat.le_refl _⟩, ?_, ?_⟩) (fun _ _ e => e)
  · rw [List.size_toArray, hz'.length, sizeLine_eq]; omega
  · rintro i v C m₁ h tk own ys E' hi hP ⟨hy, hyl⟩ F N
    obtain ⟨x, tx, rfl, hx⟩ := hz'.item i v (by simpa using hP)
    have Xb := X.keeps F₆.keep
    have Tb := T.keeps F₆.keep
    k_steps
    rename Fr _ _ _ _ => F'
    rename News _ _ _ _ => N'
    refine' call_due x tx (hts x (List.mem_of_getElem? hx)) w mean mg mb _ _ _ _ _ _ _ ?X ?T trivial ?D ?U ?_; (case X => exact Xb.keeps F'.keep); (case T => exact Tb.keeps F'.keep); (case D => decide); (case U => decide)
    rintro v h' tk' ⟨t, rfl⟩ hk
    refine CE.fin (F'.keeps hk) (N'.keeps hk) ⟨?_, by rw [List.length_append, List.length_singleton]; omega⟩
    rw [List.take_add_one, hx, Option.toList_some, List.map_append]
    exact strs_snoc hy _ _
  rintro DX dvs h tk ⟨hdv, _⟩ hD0 hD F₇ kb
  rw [List.size_toArray, hz'.length, List.take_length] at hdv
  have N₇ := news_butD F₆ N₆ kb hD0 hD
  clear N₆ F₆ hD0 hD kb
  (try dsimp only)
  k_steps
  rename GoIt _ _ _ _ _ _ _ _ _ _ _ => G
  rename Fr _ _ _ _ => F₈
  rename News _ _ _ _ => N₈
  refine for_go (mt := []) (fx := [_, _, _, _]) (fun i m mt => mt = [] ∧ ∃ u₁ u₂ u₃, m = fun y => if y = Str.ofString "is_word" then u₃ else if y = Str.ofString "due" then u₂ else if y = Str.ofString "text" then u₁ else if y = Str.ofString "dues" then some (.ref DX) else if y = Str.ofString "texts" then some (.ref TX) else if y = Str.ofString "script" then some (.ref l) else none) G F₈ N₈ ?_ ⟨rfl, none, none, none, ?_⟩ ?_ ?_
  · intro b hb
    simp only [List.mem_cons, List.not_mem_nil, or_false] at hb
    refine ⟨?_, fun p hp => nomatch hp⟩
    rcases hb with rfl | rfl
    · exact (N₈ _ (.tail _ (.head _))).2.1
    · exact (N₈ _ (.head _)).2.1
  · funext y
    by_cases e1 : y = Str.ofString "is_word"
    · subst e1; rfl
    · rw [if_neg e1]
      by_cases e2 : y = Str.ofString "due"
      · subst e2; rfl
      · rw [if_neg e2]
        by_cases e3 : y = Str.ofString "text"
        · subst e3; rfl
        · rw [if_neg e3]
  · rintro i v m₁ mt₁ h' tk' own hi ⟨Tp, vals, rfl, ⟨xv, dv, hxv, hdv', rfl⟩, hTp⟩ ha hoff ⟨rfl, u₁, u₂, u₃, rfl⟩ F N
    obtain ⟨x, tx, rfl, hx⟩ := hz'.item i xv (by simpa using hxv)
    obtain ⟨d, td, rfl, hd⟩ := hdv.item i dv (by simpa using hdv')
    have hdx : d = dueS x := by rw [List.getElem?_map, hx] at hd; simpa using hd.symm
    have hxl := hts x (List.mem_of_getElem? hx)
    clear hxv hdv' hd
    k_steps
    ·
      rename Fr _ _ _ _ => Fa
      rename News _ _ _ _ => Na
      rename (d != Str.ofString "") = true => hd1
      have hd2 : (d == Str.ofString "") = false := by simpa using nonempty_of hd1
      have Nb := drop0 Na
      simp only [upd3] at Fa
      rw [word_yes hdx hd1] at Fa
      clear Na
      have hfl : flagName x = some d := by rw [hdx]; exact due_full (hdx ▸ nonempty_of hd1)
      refine' call_isKw x tx hxl w mean mg mb _ _ _ _ _ _ _ ?X ?T trivial ?D ?U ?_; (case X => exact X.keeps Fa.keep); (case T => exact T.keeps Fa.keep); (case D => decide); (case U => decide)
      rintro v hk1 tkk rfl kp
      have Fb := Fa.keeps kp
      have Nc := Nb.keeps kp
      clear Fa Nb
      (try dsimp only)
      k_steps
      rename Fr _ _ _ _ => Fb
      rename News _ _ _ _ => Nc
      refine flag_step X T K Fb Nc rfl rfl hxl hfl fun hg1 tg1 ug1 Fc Nd => ?_
      clear Fb Nc
      (try dsimp only)
      k_steps
      rename Fr _ _ _ _ => Fc
      rename News _ _ _ _ => Nd
      refine same_step X T K Fc Nd rfl rfl hxl hfl fun hg2 tg2 Fd Ne => ?_
      clear Fc Nd
      (try dsimp only)
      k_steps
      rename Fr _ _ _ _ => Fe
      rename News _ _ _ _ => Nf
      exact TEnd.next (mt' := []) (.inl rfl) Fe Nf (fun p hp => hp) rfl ⟨rfl, _, _, _, rfl⟩
    ·
      rename Fr _ _ _ _ => Fa
      rename News _ _ _ _ => Na
      rename (d != Str.ofString "") = false => hd1
      simp only [upd3] at Fa
      rw [word_no hdx hd1] at Fa
      obtain rfl := empty_of hd1
      have hfl : flagName x = none := due_empty hdx.symm
      refine' call_isKw x tx hxl w mean mg mb _ _ _ _ _ _ _ ?X ?T trivial ?D ?U ?_; (case X => exact X.keeps Fa.keep); (case T => exact T.keeps Fa.keep); (case D => decide); (case U => decide)
      rintro v hk1 tkk rfl kp
      have Fb := Fa.keeps kp
      have Nc := Na.keeps kp
      clear Fa Na
      (try dsimp only)
      k_steps
      rename Fr _ _ _ _ => Fq0
      rename News _ _ _ _ => Nq0
      refine refuse_step X T K Fq0 (drop0 Nq0) rfl rfl (News.isList Nq0 (.head _)) (.cons x tx .nil) (by show 1 < 64; decide) (one_short hxl) (ref_name hfl) fun hq0 tq0 Fr0 Nr0 => ?_
      clear Fq0 Nq0
      (try dsimp only)
      k_steps
      rename Fr _ _ _ _ => Fq1
      rename News _ _ _ _ => Nq1
      refine refuse_step X T K Fq1 (drop0 Nq1) rfl rfl (News.isList Nq1 (.head _)) (.cons _ _ (.cons x tx .nil)) (by show 2 < 64; decide) (two_short hxl) (ref_row hfl) fun hq1 tq1 Fr1 Nr1 => ?_
      clear Fq1 Nq1
      (try dsimp only)
      k_steps
      rename Fr _ _ _ _ => Fq2
      rename News _ _ _ _ => Nq2
      refine refuse_step X T K Fq2 (drop0 Nq2) rfl rfl (News.isList Nq2 (.head _)) (.cons x tx .nil) (by show 1 < 64; decide) (one_short hxl) (ref_same hfl) fun hq2 tq2 Fr2 Nr2 => ?_
      clear Fq2 Nq2
      (try dsimp only)
      k_steps
      rename Fr _ _ _ _ => Fq3
      rename News _ _ _ _ => Nq3
      refine refuse_step X T K Fq3 (drop0 Nq3) rfl rfl (News.isList Nq3 (.head _)) (.cons x tx .nil) (by show 1 < 64; decide) (one_short hxl) (ref_way hfl (by decide) (by decide) (by decide)) fun hq3 tq3 Fr3 Nr3 => ?_
      clear Fq3 Nq3
      (try dsimp only)
      k_steps
      rename Fr _ _ _ _ => Fq4
      rename News _ _ _ _ => Nq4
      refine refuse_step X T K Fq4 (drop0 Nq4) rfl rfl (News.isList Nq4 (.head _)) (.cons x tx .nil) (by show 1 < 64; decide) (one_short hxl) (ref_way hfl (by decide) (by decide) (by decide)) fun hq4 tq4 Fr4 Nr4 => ?_
      clear Fq4 Nq4
      (try dsimp only)
      k_steps
      rename Fr _ _ _ _ => Fq5
      rename News _ _ _ _ => Nq5
      refine refuse_step X T K Fq5 (drop0 Nq5) rfl rfl (News.isList Nq5 (.head _)) (.cons x tx .nil) (by show 1 < 64; decide) (one_short hxl) (ref_way hfl (by decide) (by decide) (by decide)) fun hq5 tq5 Fr5 Nr5 => ?_
      clear Fq5 Nq5
      (try dsimp only)
      k_steps
      rename Fr _ _ _ _ => Fe
      rename News _ _ _ _ => Nf
      exact TEnd.next (mt' := []) (.inl rfl) Fe Nf (fun p hp => hp) rfl ⟨rfl, _, _, _, rfl⟩
  · rintro m₁ mt₁ h' tk' ⟨rfl, u₁, u₂, u₃, rfl⟩ F₉ N₉
    clear F₈ N₈ G
    (try dsimp only)
    k_steps
    rename GoIt _ _ _ _ _ _ _ _ _ _ _ => G
    rename Fr _ _ _ _ => Fa
    rename News _ _ _ _ => Na
    refine ⟨_, _, _, _, fun i ys => StrsAre ys (goodS (tl.take i)) ∧ ys.length ≤ i, _, G, Fa, ?_, fun i ys h => h.2, ⟨.nil, Nat.le_refl _⟩, ?_, ?_⟩
    · have h1 := hz'.length
      rw [List.size_toArray, List.size_toArray, sizeLine_eq]; omega
    · rintro i v C m₁ h tk own ys E' hi ⟨Tp, vals, rfl, ⟨xv, dv, hxv, hdv', rfl⟩, hTp⟩ ⟨hy, hyl⟩ F N
      obtain ⟨x, tx, rfl, hx⟩ := hz'.item i xv (by simpa using hxv)
      obtain ⟨d, td, rfl, hd⟩ := hdv.item i dv (by simpa using hdv')
      have hdx : d = dueS x := by rw [List.getElem?_map, hx] at hd; simpa using hd.symm
      subst hdx
      clear hxv hdv' hd
      k_steps
      · rename (dueS x != Str.ofString "") = true => hq
        refine CE.fin (by assumption) (by assumption) ⟨?_, by rw [List.length_append, List.length_singleton]; omega⟩
        rw [good_yes hx hq]
        exact strs_snoc hy x tx
      · rename (dueS x != Str.ofString "") = false => hq
        refine CE.fin (by assumption) (by assumption) ⟨?_, by omega⟩
        rw [good_no hx hq]
        exact hy
    rintro GX gvs h tk ⟨hgv, _⟩ hD0 hD Fb kb
    have Nb := news_butD Fa (drop0 (drop0 Na)) kb hD0 hD
    obtain ⟨m₀, Fb⟩ : ∃ m₀ : Str → Option Value, Fr s.heap (Env.locals _) h fun z => if z = Str.ofString "good" then some (.ref GX) else m₀ z := ⟨_, Fb⟩
    have hgl : StrsAre gvs (goodS tl) := by
      have h1 := hz'.length
      have h2 := hdv.length
      rw [List.length_map] at h2
      rw [List.size_toArray, List.size_toArray, List.take_of_length_le (by omega)] at hgv
      exact hgv
    have hgn : (goodS tl).length ≤ 9 := Nat.le_trans (len_good tl) htl
    have hgs := short_good tl hts
    clear hgv Fa Na hD0 hD kb G hdv
    (try dsimp only)
    k_steps
    rename Fr _ _ _ _ => F₁
    rename News _ _ _ _ => N₁
    rename _ < _ ∧ _ => hlt1
    have hlt2 := hlt1.1
    refine wpAny_mono (it_list rfl (N₁.isList (.tail _ (.head _)))) (fun it s₂ G => for_go (mt := [(_, W.listOf #[] 0)]) (fx := [_, _, _]) (fun i m mt => ∃ D ys n, mt = [(D, W.listOf (List.toArray ys) n)] ∧ (∃ u₁, m = fun y => if y = Str.ofString "text" then u₁ else if y = Str.ofString "kept" then some (.ref D) else if y = Str.ofString "good" then some (.ref GX) else m₀ y) ∧ StrsAre ys (dedup (((goodS tl).take i).map dueS))) G F₁ N₁ ?_ ⟨_, [], 0, rfl, ⟨m₀ (Str.ofString "text"), ?_⟩, .nil⟩ ?_ ?_) (fun _ _ e => e)
    · intro b hb
      rw [List.mem_singleton.mp hb]
      refine ⟨(N₁ _ (.tail _ (.head _))).2.1, fun p hp => ?_⟩
      rw [List.mem_singleton.mp hp]
      exact Nat.ne_of_gt hlt2
    · funext y
      by_cases e1 : y = Str.ofString "text"
      · subst e1; rfl
      · rw [if_neg e1]
    · rintro i v m₁ mt₁ h tk own hi hP ha hoff ⟨D, ys, n, rfl, ⟨u, rfl⟩, hY⟩ F₂ N₂
      obtain ⟨y, ty, rfl, hy⟩ := hgl.item i v (by simpa using hP)
      have hyl : y.length ≤ 200 := hgs y (List.mem_of_getElem? hy)
      have hyT : ((goodS tl).take (i + 1)).map dueS = ((goodS tl).take i).map dueS ++ [dueS y] := by rw [List.take_add_one, hy]; simp
      k_steps
      rename Fr _ _ _ _ => F₃
      rename News _ _ _ _ => N₃
      have hD : ∀ p ∈ own, p.1 ≠ D := fun p hp => hoff p hp D (by rw [← ha]; exact .head _)
      refine due_step X T F₃ N₃ hyl fun h₄ tk₄ t₄ F₄ N₄ => ?_
      clear F₃ N₃ F₂ N₂
      (try dsimp only)
      k_steps
      · rename (List.any _ _) = true => hq
        exact TEnd.next (mt' := [(D, W.listOf ys.toArray n)]) (.inl rfl) F₄ N₄ (fun p hp => hp) ha ⟨D, ys, n, rfl, ⟨_, upd_upd⟩, by rw [hyT, dedup_snoc, addU_in (any_mem hq)]; exact hY⟩
      · rename (List.any _ _) = false => hq
        refine due_step X T F₄ N₄ hyl fun h₅ tk₅ t₅ F₅ N₅ => ?_
        clear F₄ N₄
        (try dsimp only)
        k_steps
        have hDl := (List.cons.inj ha).1
        have hsz := hY.length
        have hsz2 := len_dedup (((goodS tl).take i).map dueS)
        rw [List.length_map, List.length_take] at hsz2
        refine append_head (rest := _ :: _ :: _ :: own) F₅ N₅ ?_ (fun h₆ F₆ N₆ => ?_) (by rw [List.size_toArray, sizeLine_eq]; omega)
        · intro p hp
          simp only [List.mem_cons] at hp
          dsimp only at hDl
          rw [hDl]
          rcases hp with rfl | rfl | rfl | hp
          · exact Nat.ne_of_lt hlt1.1
          · exact Nat.ne_of_lt hlt1.2.1
          · exact Nat.ne_of_lt hlt1.2.2
          · exact hDl ▸ hD p hp
        (try dsimp only)
        clear N₅ F₅
        k_steps
        rename Fr _ _ _ _ => F₇
        rename News _ _ _ _ => N₇
        exact TEnd.next (mt' := [(D, W.listOf (ys ++ [Value.str (dueS y) t₅]).toArray (n + 1))]) (.inl rfl) F₇ (news' := [(D, W.listOf (ys ++ [Value.str (dueS y) t₅]).toArray (n + 1))] ++ (_ :: _ :: _ :: own)) (by
          have e : ys.toArray.push (Value.str (dueS y) t₅) = (ys ++ [Value.str (dueS y) t₅]).toArray := by simp
          rw [← e]; exact N₇) (fun p hp => hp) ha ⟨D, ys ++ [Value.str (dueS y) t₅], n + 1, rfl, ⟨_, upd_upd⟩, by rw [hyT, dedup_snoc, addU_out (any_not hq)]; exact strs_snoc hY _ _⟩
    rintro m₁ mt₁ h tk ⟨KD, kvs, n, rfl, ⟨u, rfl⟩, hY⟩ F₂ N₂
    obtain ⟨m₂, F₂⟩ : ∃ m₂ : Str → Option Value, Fr s.heap (Env.locals _) h fun y => if y = Str.ofString "kept" then some (.ref KD) else if y = Str.ofString "good" then some (.ref GX) else m₂ y := by
      refine ⟨fun y => if y = Str.ofString "text" then u else m₀ y, ?_⟩
      have e : (fun y => if y = Str.ofString "text" then u else if y = Str.ofString "kept" then some (Value.ref KD) else if y = Str.ofString "good" then some (Value.ref GX) else m₀ y) = fun y => if y = Str.ofString "kept" then some (Value.ref KD) else if y = Str.ofString "good" then some (Value.ref GX) else if y = Str.ofString "text" then u else m₀ y := by
        funext y
        by_cases e1 : y = Str.ofString "text"
        · subst e1; rfl
        · rw [if_neg e1, if_neg e1]
      rw [← e]
      exact F₂
    have hkl : StrsAre kvs (keptS tl) := by
      have h1 := hgl.length
      rw [List.size_toArray, List.take_of_length_le (by omega)] at hY
      exact hY
    have hkn : (keptS tl).length ≤ 9 := Nat.le_trans (len_kept tl) htl
    have hks := short_kept tl hts
    clear hY F₁ N₁ G hlt1 hlt2
    (try dsimp only)
    k_steps
    rename Fr _ _ _ _ => Fa
    rename News _ _ _ _ => Na
    dsimp only at Na ⊢
    rw [krv_pick] at Na
    generalize hSA : (Heap.objs _).size + 1 = SA at Na ⊢
    refine add_lists (vs := gvs) (ws := gvs.reverse) Fa Na (Na.isList (.tail _ (.tail _ (.head _)))) (Na.isList (.head _)) (fun h₅ F₅ N₅ => ?_) (by rw [List.length_reverse, hgl.length, sizeLine_eq]; omega)
    have N₅ := drop1 N₅
    dsimp only at N₅ ⊢
    clear Na Fa
    k_steps
    refine ftup_step X T K F₅ N₅ rfl rfl (.inl (N₅.isList (.head _))) (strsApp hgl (strs_rev hgl)) (by rw [List.length_append, List.length_reverse]; omega) (twice_short hgs) (tup_twice tl) fun h₆ tk₆ R₁ rs₁ d₁ n₁ sl₁ hR₁ F₆ N₆ => ?_
    have N₆ := drop1 N₆
    clear F₅ N₅
    (try dsimp only)
    k_steps
    refine sorted_step F₆ N₆ (N₆.isList (.tail _ (.head _))) hkl (by omega) fun h₇ R₂ rs₂ d₂ n₂ sl₂ hR₂ F₇ N₇ => ?_
    clear F₆ N₆
    (try dsimp only)
    k_steps
    have hl₁ := hR₁.length
    have hl₂ := hR₂.length
    have hal : (sortS (keptS tl)).length ≤ 9 := Nat.le_trans (len_all tl) htl
    refine tuple_step F₇ N₇ (N₇.isList (.head _)) (by omega) fun h₈ R₃ d₃ n₃ sl₃ F₈ N₈ => ?_
    (try dsimp only)
    refine ne_tups (N₈.isTup (.tail _ (.tail _ (.head _)))) (N₈.isTup (.head _)) hR₁ hR₂ (law_units _) ?_
    have N₈ := drop0 (drop0 (drop0 N₈))
    clear F₇ N₇
    (try dsimp only)
    k_steps
    refine sys_step X T F₈ N₈ fun h₉ tk₉ R₄ sv₁ n₄ hS₁ F₉ N₉ => ?_
    clear F₈ N₈
    (try dsimp only)
    k_steps
    rename Fr _ _ _ _ => F₁₀
    rename News _ _ _ _ => N₁₀
    rename StrsAre _ _ => hS₂
    refine ne_lists (N₁₀.isList (.tail _ (.head _))) (N₁₀.isList (.head _)) hS₁ hS₂ (law_units _) ?_
    have N₁₀ := drop0 (drop0 N₁₀)
    clear F₉ N₉
    (try dsimp only)
    k_steps
    refine sorted_step F₁₀ N₁₀ (N₁₀.isList (.head _)) hkl (by omega) fun h₁₁ R₅ rs₅ d₅ n₅ sl₅ hR₅ F₁₁ N₁₁ => ?_
    clear F₁₀ N₁₀
    (try dsimp only)
    k_steps
    have hl₅ := hR₅.length
    have hal : (sortS (keptS tl)).length ≤ 9 := Nat.le_trans (len_all tl) htl
    refine comp_enum rfl (N₁₁.isList (.head _)) fun h₁₂ it s₂ G => ?_
    refine ⟨_, _, _, _, fun i ys => StrsAre ys (evens ((allS tl).take i)) ∧ ys.length ≤ i, G, ?_, fun i ys h => h.2, ⟨.nil, Nat.le_refl _⟩, ?_, ?_⟩
    · rw [List.size_toArray, sizeLine_eq]; omega
    · rintro i v C m₁ h tk own ys E' hi ⟨Tp, vals, rfl, ⟨ti, xv, hxv, rfl⟩, hTp⟩ ⟨hy, hyl⟩ F N
      obtain ⟨x, tx, rfl, hx⟩ := hR₅.item i xv (by simpa using hxv)
      have hx : (allS tl)[i]? = some x := hx
      have hi0 : (0 : Int) ≤ i := by omega
      have hi9 : (i : Int) ≤ 9 := by rw [List.size_toArray] at hi; omega
      clear hxv
      k_steps
      · rename (i : Int).fmod 2 = 0 => hq
        refine CE.fin (by assumption) (by assumption) ⟨?_, by rw [List.length_append, List.length_singleton]; omega⟩
        rw [evens_take hx, if_pos (even_of hq)]
        exact strs_snoc hy x tx
      · rename (i : Int).fmod 2 ≠ 0 => hq
        refine CE.fin (by assumption) (by assumption) ⟨?_, by omega⟩
        rw [evens_take hx, if_neg (odd_of hq), List.append_nil]
        exact hy
    rintro HX hvs h tk ⟨hhv, _⟩ hD0 hD kb
    have F₁₂ := F₁₁.keeps kb
    have N₁₂ := drop1 (news_new F₁₁ N₁₁ kb hD0 hD)
    have hhl : StrsAre hvs (halfS tl) := by
      rw [List.size_toArray, List.take_of_length_le (by rw [hl₅]; exact Nat.le_refl _)] at hhv
      exact hhv
    have hhn : (halfS tl).length ≤ 9 := Nat.le_trans (len_half tl) htl
    have hhs := short_half tl hts
    rename (_ : Obj).data = Data.cell (bindC _ _ _ (Str.ofString "half")) => hdH
    have q₁ := ne_cell N₁₂ (.head _) (.tail _ (.tail _ (.tail _ (.tail _ (.head _))))) hdH (fun _ h => nomatch h)
    have q₂ := ne_cell N₁₂ (.tail _ (.head _)) (.tail _ (.tail _ (.tail _ (.tail _ (.head _))))) hdH (fun _ h => nomatch h)
    have q₃ := ne_cell N₁₂ (.tail _ (.tail _ (.head _))) (.tail _ (.tail _ (.tail _ (.tail _ (.head _))))) hdH (fun _ h => nomatch h)
    clear hhv F₁₁ N₁₁ hD0 hD kb G
    (try dsimp only)
    k_steps
    rename Fr _ _ _ _ => F₁₃
    rename News _ _ _ _ => N₁₃
    rename (_ : Obj).data = Data.cell (some (Value.ref HX)) => hcH
    refine sorted_step F₁₃ N₁₃ (N₁₃.isList (.tail _ (.head _))) hkl (by omega) fun h₁₄ R₆ rs₆ d₆ n₆ sl₆ hR₆ F₁₄ N₁₄ => ?_
    clear F₁₃ N₁₃ F₁₂ N₁₂
    (try dsimp only)
    have hcell := isCell_of N₁₄ (.tail _ (.tail _ (.tail _ (.tail _ (.tail _ (.head _)))))) hcH
    have hl₆ := hR₆.length
    refine wpAny_mono (it_list rfl (N₁₄.isList (.head _))) (fun it s₂ G => ⟨_, _, _, _, fun i ys => StrsAre ys (((allS tl).take i).filter fun x => !decide (x ∈ halfS tl)) ∧ ys.length ≤ i, _, G, F₁₄, ?_, fun i ys h => h.2, ⟨.nil, Nat.le_refl _⟩, ?_, ?_⟩) (fun _ _ e => e)
    · rw [List.size_toArray, sizeLine_eq]; omega
    · rintro i v C m₁ h tk own ys E' hi hP ⟨hJ, hJl⟩ F N
      obtain ⟨y, ty, rfl, hy⟩ := hR₆.item i v (by simpa using hP)
      have hy : (allS tl)[i]? = some y := hy
      k_steps
      rename Fr _ _ _ _ => F'
      rename News _ _ _ _ => N'
      refine notIn_strs (vs := hvs) (.inl ?_) hhl ?_
      · exact Heap.IsList.at (N₁₄.isList (.tail _ (.head _))) fun o e => F'.keep _ _ e
      have hJ' : ((allS tl).take (i + 1)).filter (fun x => !decide (x ∈ halfS tl)) = ((allS tl).take i).filter (fun x => !decide (x ∈ halfS tl)) ++ [y].filter (fun x => !decide (x ∈ halfS tl)) := by
        rw [List.take_add_one, hy, List.filter_append]; rfl
      generalize hq : (!decide (y ∈ halfS tl)) = q
      cases q
      · k_steps
        refine CE.fin (by assumption) (by assumption) ⟨?_, by omega⟩
        rw [hJ', List.filter_cons, hq]
        simpa using hJ
      · k_steps
        refine CE.fin (by assumption) (by assumption) ⟨?_, by simp; omega⟩
        rw [hJ', List.filter_cons, hq]
        exact strs_snoc hJ y ty
    rintro SX svs h tk ⟨hsv, _⟩ hD0 hD F₁₅ kb
    have N₁₅ := drop1 (news_butD F₁₄ N₁₄ kb hD0 hD)
    have hsl : StrsAre svs (restS tl) := by
      rw [List.size_toArray, List.take_of_length_le (by rw [hl₆]; exact Nat.le_refl _)] at hsv
      exact hsv
    have hsn : (restS tl).length ≤ 9 := Nat.le_trans (len_rest tl) htl
    have hss := short_rest tl hts
    clear hsv F₁₄ N₁₄ hD0 hD kb hcell
    (try dsimp only)
    k_steps
    refine ftup_step X T K F₁₅ N₁₅ rfl rfl (.inl (N₁₅.isList (.tail _ (.head _)))) hhl (by omega) hhs (tup_half tl) fun h₁₆ tk₁₆ LT lts d₁₆ n₁₆ sl₁₆ hlt F₁₆ N₁₆ => ?_
    clear F₁₅ N₁₅
    (try dsimp only)
    k_steps
    rename Fr _ _ _ _ => F₁₇
    rename News _ _ _ _ => N₁₇
    refine letter_step X T F₁₇ N₁₇ (N₁₇.isTup (.head _)) fun h₁₈ tk₁₈ LX ldx les n₁₈ hok F₁₈ N₁₈ => ?_
    clear F₁₇ N₁₇
    (try dsimp only)
    k_steps
    rename Fr _ _ _ _ => F₁₉
    rename News _ _ _ _ => N₁₉
    refine after_step X T K F₁₉ N₁₉ rfl rfl (letter_of N₁₉ (.head _) (.tail _ (.head _)) hok) (N₁₉.isTup (.tail _ (.tail _ (.head _)))) (.inl (N₁₉.isList (.tail _ (.tail _ (.tail _ (.tail _ (.tail _ (.tail _ (.head _))))))))) hlt hhs hgl hgs (by omega) (after_plus tl) fun h₂₀ tk₂₀ R₇ rs₇ d₇ n₇ sl₇ hR₇ F₂₀ N₂₀ => ?_
    clear F₁₉ N₁₉ F₁₈ N₁₈
    (try dsimp only)
    k_steps
    refine sorted_step F₂₀ N₂₀ (N₂₀.isList (.tail _ (.tail _ (.tail _ (.tail _ (.tail _ (.tail _ (.head _)))))))) hkl (by omega) fun h₂₁ R₈ rs₈ d₈ n₈ sl₈ hR₈ F₂₁ N₂₁ => ?_
    clear F₂₀ N₂₀
    (try dsimp only)
    k_steps
    have hl₈ := hR₈.length
    rename Fr _ _ _ _ => F₂₂
    rename News _ _ _ _ => N₂₂
    refine ne_tups (N₂₂.isTup (.tail _ (.tail _ (.head _)))) (N₂₂.isTup (.head _)) hR₇ hR₈ (law_units _) ?_
    have N₂₂ := drop0 (drop0 (drop0 N₂₂))
    have hmark : SliceMark := trivial
    (try dsimp only)
    k_steps
    refine slice_list F₂₂ N₂₂ (N₂₂.isList (.tail _ (.tail _ (.tail _ (.tail _ (.head _)))))) .none (.int 1 _) (fun h₂₃ F₂₃ N₂₃ => ?_) (by with_unfolding_all rfl) (by intro _; with_unfolding_all rfl) (by rw [List.size_toArray, hhl.length, sizeLine_eq]; omega)
    dsimp only at N₂₃ ⊢
    rw [show ((1 : Int)) = ((1 : Nat) : Int) from rfl, slicePick_upto'] at N₂₃
    dsimp only at N₂₃
    generalize (Heap.objs _).size + 1 = HA at N₂₃ ⊢
    (try clear F₂₂)
    (try clear N₂₂)
    k_steps
    refine add_lists (vs := hvs.take 1) (ws := svs) F₂₃ N₂₃ (N₂₃.isList (.head _)) (N₂₃.isList (.tail _ (.tail _ (.tail _ (.tail _ (.head _)))))) (fun h₂₄ F₂₄ N₂₄ => ?_) (by rw [List.length_take, hsl.length, sizeLine_eq]; omega)
    have N₂₄ := drop1 N₂₄
    dsimp only at N₂₄ ⊢
    generalize h₂₃.objs.size = CA at N₂₄ ⊢
    (try clear F₂₃)
    (try clear N₂₃)
    k_steps
    refine after_step X T K F₂₄ N₂₄ rfl rfl (letter_of N₂₄ (.tail _ (.head _)) (.tail _ (.tail _ (.head _))) hok) (N₂₄.isTup (.tail _ (.tail _ (.tail _ (.head _))))) (.inl (N₂₄.isList (.head _))) hlt hhs (strsApp (hhl.take' 1) hsl) (app_short (fun x hx => hhs x (List.mem_of_mem_take hx)) hss) (by rw [List.length_append, List.length_take]; omega) (after_cut tl) fun h₂₅ tk₂₅ R₁₀ rs₁₀ d₁₀ n₁₀ sl₁₀ hR₁₀ F₂₅ N₂₅ => ?_
    have N₂₅ := drop1 N₂₅
    (try clear F₂₄)
    (try clear N₂₄)
    (try dsimp only)
    k_steps
    refine slice_list F₂₅ N₂₅ (N₂₅.isList (.tail _ (.tail _ (.tail _ (.tail _ (.tail _ (.head _))))))) (.int 1 _) .none (fun h₂₆ F₂₆ N₂₆ => ?_) (by with_unfolding_all rfl) (by intro _; with_unfolding_all rfl) (by rw [List.size_toArray, hhl.length, sizeLine_eq]; omega)
    dsimp only at N₂₆ ⊢
    rw [show ((1 : Int)) = ((1 : Nat) : Int) from rfl, slicePick_from'] at N₂₆
    dsimp only at N₂₆
    generalize (Heap.objs _).size + 1 = HA₂ at N₂₆ ⊢
    (try clear F₂₅)
    (try clear N₂₅)
    have hdr : (List.drop 1 hvs).length < 1000 := by rw [List.length_drop, hhl.length]; omega
    k_steps
    rename Fr _ _ _ _ => F₂₇
    rename News _ _ _ _ => N₂₇
    refine ne_tups (N₂₇.isTup (.tail _ (.tail _ (.head _)))) (N₂₇.isTup (.head _)) hR₁₀ (hhl.drop' 1) (law_units _) ?_
    have N₂₇ := drop0 (drop0 (drop0 N₂₇))
    (try clear F₂₆)
    (try clear N₂₆)
    (try dsimp only)
    k_steps
    refine after_step X T K F₂₇ N₂₇ rfl rfl (letter_of N₂₇ (.head _) (.tail _ (.head _)) hok) (N₂₇.isTup (.tail _ (.tail _ (.head _)))) (.inl (N₂₇.isList (.tail _ (.tail _ (.tail _ (.head _)))))) hlt hhs hsl hss (by omega) (after_is tl) fun h₂₈ tk₂₈ R₁₁ rs₁₁ d₁₁ n₁₁ sl₁₁ hR₁₁ F₂₈ N₂₈ => ?_
    (try clear F₂₇)
    (try clear N₂₇)
    (try dsimp only)
    have hsm : svs.length < 1000 := by rw [hsl.length]; omega
    have hhm : hvs.length < 1000 := by rw [hhl.length]; omega
    k_steps
    refine tuple_step F₂₈ N₂₈ (N₂₈.isList (.tail _ (.tail _ (.tail _ (.tail _ (.head _)))))) hsm fun h₂₉ RA dA nA slA F₂₉ N₂₉ => ?_
    (try dsimp only)
    refine ne_tups (N₂₉.isTup (.tail _ (.head _))) (N₂₉.isTup (.head _)) hR₁₁ hsl (law_units _) ?_
    have N₂₉ := drop0 (drop0 N₂₉)
    (try clear F₂₈)
    (try clear N₂₈)
    (try dsimp only)
    k_steps
    rename Fr _ _ _ _ => F₃₀
    rename News _ _ _ _ => N₃₀
    refine after_step X T K F₃₀ N₃₀ rfl rfl (letter_of N₃₀ (.tail _ (.head _)) (.tail _ (.tail _ (.head _))) hok) (N₃₀.isTup (.tail _ (.tail _ (.tail _ (.head _))))) (.inl (N₃₀.isList (items := List.toArray []) (.head _))) hlt hhs .nil (fun _ h => nomatch h) (by rw [List.length_nil]; omega) (after_none tl) fun h₃₁ tk₃₁ R₁₂ rs₁₂ d₁₂ n₁₂ sl₁₂ hR₁₂ F₃₁ N₃₁ => ?_
    have N₃₁ := drop1 N₃₁
    (try clear F₃₀)
    (try clear N₃₀)
    (try dsimp only)
    k_steps
    refine tuple_step F₃₁ N₃₁ (N₃₁.isList (.tail _ (.tail _ (.tail _ (.tail _ (.tail _ (.head _))))))) hhm fun h₃₂ RB dB nB slB F₃₂ N₃₂ => ?_
    (try dsimp only)
    refine ne_tups (N₃₂.isTup (.tail _ (.head _))) (N₃₂.isTup (.head _)) hR₁₂ hhl (law_units _) ?_
    have N₃₂ := drop0 (drop0 N₃₂)
    (try clear F₃₁)
    (try clear N₃₁)
    (try dsimp only)
    k_steps
    refine refuse_step X T K F₃₂ N₃₂ rfl rfl (N₃₂.isList (.tail _ (.tail _ (.tail _ (.tail _ (.tail _ (.tail _ (.head _)))))))) hgl (by omega) hgs (ref_star tl) fun h₃₃ tk₃₃ F₃₃ N₃₃ => ?_
    (try clear F₃₂)
    (try clear N₃₂)
    (try dsimp only)
    k_steps
    refine after_step X T K F₃₃ N₃₃ rfl rfl (letter_of N₃₃ (.head _) (.tail _ (.head _)) hok) (N₃₃.isTup (.tail _ (.tail _ (.head _)))) (.inl (N₃₃.isList (.tail _ (.tail _ (.tail _ (.head _)))))) hlt hhs hsl hss (by omega) (after_more tl) fun h₃₄ tk₃₄ MT mts d₁₃ n₁₃ sl₁₃ hmt F₃₄ N₃₄ => ?_
    (try clear F₃₃)
    (try clear N₃₃)
    (try dsimp only)
    k_steps
    refine letter_step X T F₃₄ N₃₄ (N₃₄.isTup (.head _)) fun h₃₅ tk₃₅ MX mdx mes n₁₄ hokM F₃₅ N₃₅ => ?_
    (try clear F₃₄)
    (try clear N₃₄)
    (try dsimp only)
    rename (_ : Obj).data = Data.cell (bindC _ _ _ (Str.ofString "more")) => hdM
    have qm0 := ne_cell N₃₅ (.head _) (.tail _ (.tail _ (.tail _ (.tail _ (.tail _ (.tail _ (.tail _ (.tail _ (.tail _ (.tail _ (.head _))))))))))) hdM (fun _ h => nomatch h)
    have qm1 := ne_cell N₃₅ (.tail _ (.head _)) (.tail _ (.tail _ (.tail _ (.tail _ (.tail _ (.tail _ (.tail _ (.tail _ (.tail _ (.tail _ (.head _))))))))))) hdM (fun _ h => nomatch h)
    have qm2 := ne_cell N₃₅ (.tail _ (.tail _ (.head _))) (.tail _ (.tail _ (.tail _ (.tail _ (.tail _ (.tail _ (.tail _ (.tail _ (.tail _ (.tail _ (.head _))))))))))) hdM (fun _ h => nomatch h)
    have qm3 := ne_cell N₃₅ (.tail _ (.tail _ (.tail _ (.head _)))) (.tail _ (.tail _ (.tail _ (.tail _ (.tail _ (.tail _ (.tail _ (.tail _ (.tail _ (.tail _ (.head _))))))))))) hdM (fun _ h => nomatch h)
    have qm4 := ne_cell N₃₅ (.tail _ (.tail _ (.tail _ (.tail _ (.head _))))) (.tail _ (.tail _ (.tail _ (.tail _ (.tail _ (.tail _ (.tail _ (.tail _ (.tail _ (.tail _ (.head _))))))))))) hdM (fun _ h => nomatch h)
    have qm5 := ne_cell N₃₅ (.tail _ (.tail _ (.tail _ (.tail _ (.tail _ (.head _)))))) (.tail _ (.tail _ (.tail _ (.tail _ (.tail _ (.tail _ (.tail _ (.tail _ (.tail _ (.tail _ (.head _))))))))))) hdM (fun _ h => nomatch h)
    have qm6 := ne_cell N₃₅ (.tail _ (.tail _ (.tail _ (.tail _ (.tail _ (.tail _ (.head _))))))) (.tail _ (.tail _ (.tail _ (.tail _ (.tail _ (.tail _ (.tail _ (.tail _ (.tail _ (.tail _ (.head _))))))))))) hdM (fun _ h => nomatch h)
    have qm7 := ne_cell N₃₅ (.tail _ (.tail _ (.tail _ (.tail _ (.tail _ (.tail _ (.tail _ (.head _)))))))) (.tail _ (.tail _ (.tail _ (.tail _ (.tail _ (.tail _ (.tail _ (.tail _ (.tail _ (.tail _ (.head _))))))))))) hdM (fun _ h => nomatch h)
    have qm8 := ne_cell N₃₅ (.tail _ (.tail _ (.tail _ (.tail _ (.tail _ (.tail _ (.tail _ (.tail _ (.head _))))))))) (.tail _ (.tail _ (.tail _ (.tail _ (.tail _ (.tail _ (.tail _ (.tail _ (.tail _ (.tail _ (.head _))))))))))) hdM (fun _ h => nomatch h)
    have qm9 := ne_cell N₃₅ (.tail _ (.tail _ (.tail _ (.tail _ (.tail _ (.tail _ (.tail _ (.tail _ (.tail _ (.head _)))))))))) (.tail _ (.tail _ (.tail _ (.tail _ (.tail _ (.tail _ (.tail _ (.tail _ (.tail _ (.tail _ (.head _))))))))))) hdM (fun _ h => nomatch h)
    k_steps
    rename Fr _ _ _ _ => F₃₆
    rename News _ _ _ _ => N₃₆
    rename (_ : Obj).data = Data.cell (some (Value.ref MX)) => hcM
    have han : (allS tl).length ≤ 9 := Nat.le_trans (len_all tl) htl
    refine after_step X T K F₃₆ N₃₆ rfl rfl (letter_of N₃₆ (.head _) (.tail _ (.head _)) hokM) (N₃₆.isTup (.tail _ (.tail _ (.head _)))) (.inl (N₃₆.isList (.tail _ (.tail _ (.tail _ (.tail _ (.tail _ (.tail _ (.head _))))))))) hmt (short_all tl hts) hsl hss (by omega) (after_back tl) fun h₃₇ tk₃₇ R₁₄ rs₁₄ d₁₄ n₁₄ sl₁₄ hR₁₄ F₃₇ N₃₇ => ?_
    (try clear F₃₆)
    (try clear N₃₆)
    (try dsimp only)
    k_steps
    refine tuple_step F₃₇ N₃₇ (N₃₇.isList (.tail _ (.tail _ (.tail _ (.tail _ (.tail _ (.tail _ (.tail _ (.tail _ (.head _)))))))))) hhm fun h₃₈ RC dC nC slC F₃₈ N₃₈ => ?_
    (try dsimp only)
    refine ne_tups (N₃₈.isTup (.tail _ (.head _))) (N₃₈.isTup (.head _)) hR₁₄ hhl (law_units _) ?_
    have N₃₈ := drop0 (drop0 N₃₈)
    (try clear F₃₇)
    (try clear N₃₇)
    (try dsimp only)
    k_steps
    have hcell := isCell_of N₃₈ (.tail _ (.tail _ (.tail _ (.tail _ (.tail _ (.tail _ (.tail _ (.tail _ (.tail _ (.tail _ (.head _))))))))))) hcM
    have hlM := letter_of N₃₈ (.head _) (.tail _ (.head _)) hokM
    have htM := N₃₈.isTup (.tail _ (.tail _ (.head _)))
    refine wpAny_mono (it_list rfl (N₃₈.isList (.tail _ (.tail _ (.tail _ (.tail _ (.tail _ (.tail _ (.tail _ (.tail _ (.head _))))))))))) (fun it s₂ G => ⟨_, _, _, _, fun _ ys => ys = [], G, ?_, (fun i ys h => by rw [h]; exact Nat.zero_le _), rfl, ?_, ?_⟩) (fun _ _ e => e)
    · rw [List.size_toArray, hkl.length, sizeLine_eq]; omega
    · rintro i v C m₁ h tk own ys E' hi hP hJ F N
      obtain ⟨y, ty, rfl, hy⟩ := hkl.item i v (by simpa using hP)
      have hyA : y ∈ allS tl := (mem_all tl).mpr (List.mem_of_getElem? hy)
      have Xb := X.keeps F₃₈.keep
      have Tb := T.keeps F₃₈.keep
      k_steps
      rename Fr _ _ _ _ => F'
      rename News _ _ _ _ => N'
      refine letter_method F' Xb (hlM.keeps F'.keep) ?_
      (try dsimp only)
      k_steps
      rename Fr _ _ _ _ => F'
      rename News _ _ _ _ => N'
      refine has_step Xb Tb F' N' (hlM.keeps F'.keep) (Heap.IsTuple.at htM fun o e => F'.keep _ _ e) hmt hyA fun hq tq Fq Nq => ?_
      (try clear F' N')
      (try dsimp only)
      k_steps
      exact CE.fin (by assumption) (by assumption) hJ
    rintro EX evs h tk rfl hD0 hD kb
    have F₃₉ := F₃₈.keeps kb
    have N₃₉ := news_new F₃₈ N₃₈ kb hD0 hD
    clear F₃₈ N₃₈ hD0 hD kb hlM htM hcell
    (try dsimp only)
    k_steps
    rename Fr _ _ _ _ => F₄₀
    rename News _ _ _ _ => N₄₀
    refine ne_lists (vs := []) (ws := []) (N₄₀.isList (.tail _ (.head _))) (N₄₀.isList (.head _)) .nil .nil (law_units _) ?_
    have N₄₀ := drop0 (drop0 N₄₀)
    (try dsimp only)
    k_steps
    refine letter_told F₄₀ X (letter_of N₄₀ (.tail _ (.tail _ (.tail _ (.head _)))) (.tail _ (.tail _ (.tail _ (.tail _ (.head _))))) hok) ?_
    (try dsimp only)
    k_steps
    refine told_step X T F₄₀ N₄₀ (letter_of N₄₀ (.tail _ (.tail _ (.tail _ (.head _)))) (.tail _ (.tail _ (.tail _ (.tail _ (.head _))))) hok) fun h₄₁ tk₄₁ RT dT nT slT F₄₁ N₄₁ => ?_
    (try clear F₄₀)
    (try clear N₄₀)
    (try dsimp only)
    k_steps
    refine tuple_step F₄₁ N₄₁ (N₄₁.isList (.tail _ (.tail _ (.tail _ (.tail _ (.tail _ (.tail _ (.tail _ (.tail _ (.head _)))))))))) hhm fun h₄₂ RU dU nU slU F₄₂ N₄₂ => ?_
    (try clear F₄₁)
    (try clear N₄₁)
    (try dsimp only)
    k_steps
    rename Fr _ _ _ _ => F₄₃
    rename News _ _ _ _ => N₄₃
    refine eq_told (N₄₃.isTup (.tail _ (.tail _ (.head _)))) (N₄₃.isTup (.head _)) (N₄₃.isTup (.tail _ (.tail _ (.tail _ (.tail _ (.tail _ (.tail _ (.tail _ (.tail _ (.head _)))))))))) (N₄₃.isTup (.tail _ (.head _))) hlt hhl (law_units _) (law_units1 _) ?_
    exact hret _ _ F₄₃.keep
end Mine
end
section
open PySem PySem.W PyProof.Rows PyProof.V PySem.Spec PySem.Calls PySem.SeqAt
set_option Elab.async false
namespace Mine
theorem good_true {c : ClaimW} {cl : Str → Option Addr} {mean : ExcName → Option Value} {args : List WData} {s₁ s' : Shared} (hk : Kp s₁.heap s'.heap) (hg : s'.gens = #[]) (hn : ∀ cls, c.raises args cls = false) (hp : c.post args (.bool true) args = true) (hos : s'.os = s₁.os) :
    GoodWG c cl mean args s₁ (.ok (.ret (.bool true))) s' :=
  GoodW.toG ⟨.inl ⟨_, .bool true, [], rfl, hn, .bool true, hp, fun _ => ⟨List.nodup_nil, fun _ h => nomatch h⟩⟩, hk, hos, hg⟩
end Mine
set_option maxRecDepth 100000 in
set_option maxHeartbeats 8000000 in
theorem Mine.join : PySem.Challenge.rw_no0350_01.Holds := Mine.hd (by
  k_fill
  intro w s₀ s₁ mg mb G Y fa o pm cd doc dV kV ho hd hcd hD hmg hg args vals as hpre hlay hrd hwl hlo
  have KX := kIn_of Y
  have X := (Ground.X G).1
  refine Ground.open G ?_
  intro T B D TE TW
  wrow_args hpre hlay hrd hwl hlo
  have hlaw : mg (Str.ofString "law") = some (.ref 153) := mg_of KX T.g (by k_is)
  have hfa : (some (Value.ref 153) : Option Value) = some (.ref fa) := hlaw.symm.trans hmg
  cases hfa
  rename IntsAre _ _ => hI
  rename Heap.IsList _ _ _ => hl
  rename ¬ _ < _ => hlen
  refine wpAny_call (Mine.call_law _ _ _ hI (by omega) w (ExcName.means s₀.heap) mg mb s₁ _ KX T hl fun h' tk hk => ?_)
  refine Mine.good_true hk hg ?_ ?_ rfl
  · intro cls; rfl
  · first | exact postW_of (X := true) rfl rfl rfl | exact postW_of (X := true) (by first | rfl | decide) (by first | rfl | kernel_rfl | (simp [WTm.value]; done)) rfl)
end
theorem PySem.Challenge.cw_no0350_01_holds : PySem.Challenge.rw_no0350_01.Holds := by
  exact Mine.join

