import PyProof.Rows.All
import Wide.All
import OpenK.AllK
import Wide.FinOn
import PySem.Challenge.RW_sa0560_01
open PySem PySem.W PyProof.Rows
set_option Elab.async false
namespace Mine
set_option maxRecDepth 100000 in
set_option maxHeartbeats 8000000 in
open_top hd for PySem.Challenge.rw_sa0560_01
end Mine
open PySem PySem.W PyProof.Rows PySem.Calls PySem.Spec PyProof.V PyProof.Rows.LCg
set_option maxRecDepth 100000
namespace Mine

theorem News.sub {h₀ h : Heap} {L : Addr} {news news' : List (Addr × Obj)} (N : News h₀ L h news) (hs : ∀ p ∈ news', p ∈ news) : News h₀ L h news' := fun p hp => N p (hs p hp)

section
variable {prog : Program} {w : World} {A : Around} {E : Value → Shared → Prop} {s : Shared} {env : Env} {h₀ : Heap}

/-- the end of a turn -/
def TurnEnd (h₀ : Heap) (L : Addr) (I : Addr) (oI : Obj) (J : (Str → Option Value) → List (Addr × Obj) → Prop) (s : Shared) (s₂ : Shared) : Prop :=
  ∃ h' tk m' nx all, s₂ = { s with heap := h', toks := tk } ∧ Fr h₀ L h' m' ∧ News h₀ L h' all ∧ (I, oI) ∈ all ∧ (∀ p ∈ nx, p ∈ all) ∧ (∀ p ∈ nx, p.1 ≠ I) ∧ J m' nx
def TurnPost (h₀ : Heap) (L : Addr) (I : Addr) (oI : Obj) (J : (Str → Option Value) → List (Addr × Obj) → Prop) (s : Shared) (Q : Flow → Shared → Prop) (f : Flow) (s₂ : Shared) : Prop :=
  match f with
  | .ret v => Q (.ret v) s₂
  | .brk => Q .next s₂
  | _ => TurnEnd h₀ L I oI J s s₂

theorem code_loop {R : Result → Shared → Prop} {target : PySem.Expr} {body : List Stmt} {I : Addr} {fp : List Addr} {n : Nat} {P : Nat → Value → Prop} {St : Nat → Heap → Prop} {m : Str → Option Value} {news : List (Addr × Obj)}
    (W : Walks prog w A I fp [I] n P St) (hIo : ∀ i h, St i h → ∃ o, h.get? I = some o) (hIL : I ≠ env.locals) (hI₀ : h₀.get? I = none)
    (J : Nat → (Str → Option Value) → List (Addr × Obj) → Prop)
    (hSt : ∀ i h h' o m' nw, St i h → h.get? I = some o → h'.get? I = some o → (∀ b o, h₀.get? b = some o → h'.get? b = some o) → News h₀ env.locals h' nw → J i m' nw → St i h')
    (hnI : ∀ p ∈ news, p.1 ≠ I) (hst : St 0 s.heap) (F : Fr h₀ env.locals s.heap m) (N : News h₀ env.locals s.heap news) (h0 : J 0 m news)
    (step : ∀ i v m₁ nx oI h tk, i < n → P i v → J i m₁ nx → (∀ p ∈ nx, p.1 ≠ I) → Fr h₀ env.locals h m₁ → News h₀ env.locals h ((I, oI) :: nx) → St (i + 1) h →
      wpAny (model prog w) A (letOwnedTupleGo target (.ref I) v) (fun _ s₀ => wpAny (model prog w) A (assign target env v) (fun _ s₁ => wpAny (model prog w) A (execs body env)
        (TurnPost h₀ env.locals I oI (J (i + 1)) s fun f s' => R (.ok f) s') (fun _ _ => False) s₁) (fun _ _ => False) s₀) (fun _ _ => False) { s with heap := h, toks := tk })
    (hR : ∀ h' tk m' nx, Fr h₀ env.locals h' m' → News h₀ env.locals h' nx → J n m' nx → R (.ok .next) { s with heap := h', toks := tk }) :
    codeAny (model prog w) A (.forLoop target (.ref I) body [] env) R s := by
  refine codeAny_forLoop_any
    (fun k s' => ∃ h' tk m' nx i, s' = { s with heap := h', toks := tk } ∧ St i h' ∧ Fr h₀ env.locals h' m' ∧ News h₀ env.locals h' nx ∧ (∀ p ∈ nx, p.1 ≠ I) ∧ J i m' nx ∧ i ≤ n ∧ k = n + 1 - i) ?_ (n + 1)
    ⟨s.heap, s.toks, m, news, 0, rfl, hst, F, N, hnI, h0, Nat.zero_le _, rfl⟩
  rintro k s' ⟨h', tk, m', nx, i, rfl, hst', F', N', hn', hJ, hi, rfl⟩
  have next : ∀ h₁ : Heap, (∀ b o, b ∉ [I] → h'.get? b = some o → h₁.get? b = some o) → Fr h₀ env.locals h₁ m' ∧ News h₀ env.locals h₁ nx := fun h₁ hk₁ =>
    ⟨⟨F'.ns.at' fun o e => hk₁ _ o (by simpa using Ne.symm hIL) e, fun b o e => hk₁ b o (fun q => by rw [List.mem_singleton.mp q, hI₀] at e; cases e) (F'.keep b o e), F'.above⟩,
      fun p hp => ⟨hk₁ _ _ (by simpa using hn' p hp) (N' p hp).1, (N' p hp).2⟩⟩
  by_cases hlt : i < n
  · refine W.item i _ _ _ hlt hst' fun v h₁ tk₁ hP hst₁ hk₁ => ?_
    obtain ⟨F₁, N₁⟩ := next h₁ hk₁
    obtain ⟨oI, hoI⟩ := hIo _ _ hst₁
    have N₂ : News h₀ env.locals h₁ ((I, oI) :: nx) := fun p hp => by
      rcases List.mem_cons.mp hp with rfl | hp
      · exact ⟨hoI, hIL, hI₀⟩
      · exact N₁ p hp
    refine wpAny_mono (step i v m' nx oI h₁ tk₁ hlt hP hJ hn' F₁ N₂ hst₁) (fun _ s₀ h₀' => wpAny_mono h₀' (fun _ s₁ h₁' => wpAny_mono h₁' (fun f s₂ h₂ => ?_) fun _ _ x => x.elim) fun _ _ x => x.elim) fun _ _ x => x.elim
    have fin : TurnEnd h₀ env.locals I oI (J (i + 1)) s s₂ → ∃ m, m < n + 1 - i ∧ ∃ h' tk m' nx i, s₂ = { s with heap := h', toks := tk } ∧ St i h' ∧ Fr h₀ env.locals h' m' ∧ News h₀ env.locals h' nx ∧ (∀ p ∈ nx, p.1 ≠ I) ∧ J i m' nx ∧ i ≤ n ∧ m = n + 1 - i := by
      rintro ⟨h₃, tk₂, m₂, nx₂, all, rfl, F₂, Nall, hIa, hsub, hn₂, hJ₂⟩
      exact ⟨n + 1 - (i + 1), by omega, h₃, tk₂, m₂, nx₂, i + 1, rfl, hSt _ _ _ _ _ _ hst₁ hoI (Nall _ hIa).1 F₂.keep (fun p hp => Nall p (hsub p hp)) hJ₂, F₂, fun p hp => Nall p (hsub p hp), hn₂, hJ₂, hlt, rfl⟩
    cases f with
    | ret v => exact h₂
    | brk => exact h₂
    | cont => exact fin h₂
    | next => exact fin h₂
  · obtain rfl : i = n := by omega
    refine W.done _ _ _ hst' fun h₁ tk₁ hk₁ => wpAny_execs_nil ?_
    obtain ⟨F₁, N₁⟩ := next h₁ hk₁
    exact hR h₁ tk₁ m' nx F₁ N₁ hJ
theorem letGo_tupiter {elts : List PySem.Expr} {x1} {pos : Pos} {I l T : Addr} {i : Nat} {Q : Unit → Shared → Prop} (hit : s.heap.IsTupleIter I l i) (hQ : Q () s) :
    wpAny (model prog w) A (letOwnedTupleGo (.Tuple elts x1 pos) (.ref I) (.ref T)) Q E s := by
  obtain ⟨o, ho, hc, hd⟩ := hit
  unfold letOwnedTupleGo
  refine wpAny_bind (wpAny_load ho ?_)
  rw [hc, hd]
  show wpAny _ A (if (["enumerate", "zip", "dict_itemiterator", "dict_reverseitemiterator", "odict_iterator", "itertools.zip_longest", "itertools.pairwise"].contains "tuple_iterator" &&
      (#[.ref l, .int i 0] : Array Value)[0]? == some (rawInt T)) = true then _ else _) Q E s
  rw [if_neg (by
    intro h
    rw [show (["enumerate", "zip", "dict_itemiterator", "dict_reverseitemiterator", "odict_iterator", "itertools.zip_longest", "itertools.pairwise"].contains "tuple_iterator") = false from by decide, Bool.false_and] at h
    cases h)]
  exact wpAny_pure hQ

theorem For_code {target iter : PySem.Expr} {body : List Stmt} {pos : Pos} {Q : Flow → Shared → Prop}
    (h : wpAny (model prog w) A (eval iter env) (fun xv s₁ => wpAny (model prog w) A (pyIter xv) (fun it s₂ => codeAny (model prog w) A (.forLoop target it body [] env) (fun r s' => match r with | .ok f => Q f s' | .error _ => False) s₂) E s₁) E s)
    (hs : ∀ x, foldedSetIterable iter env x = pure x := by intro _; rfl) : wpAny (model prog w) A (exec (.For target iter body [] pos) env) Q E s :=
  wpAny_For (wpAny_mono h (fun _ _ h₁ => wpAny_mono h₁ (fun _ _ h₂ => codeAny_mono h₂ fun r s' hr => by cases r with | ok f => exact hr | error e => exact hr.elim) fun _ _ e => e) fun _ _ e => e) hs

/-- where the items of a loop lie: a list or a tuple, of the base or of the ledger -/
def Src (tup : Bool) (h₀ : Heap) (ax : Addr) (its : Array Value) (nx : List (Addr × Obj)) : Prop :=
  ∃ o, (h₀.get? ax = some o ∨ (ax, o) ∈ nx) ∧ o.cls = .type (if tup = true then "tuple" else "list") ∧ ∃ n, o.data = .seq its n
theorem Src.get {tup : Bool} {h₀ h : Heap} {L ax : Addr} {its : Array Value} {nx : List (Addr × Obj)} (x : Src tup h₀ ax its nx) (k : ∀ b o, h₀.get? b = some o → h.get? b = some o) (N : News h₀ L h nx) :
    ∃ o, h.get? ax = some o ∧ o.cls = .type (if tup = true then "tuple" else "list") ∧ ∃ n, o.data = .seq its n := by
  obtain ⟨o, e | hm, r⟩ := x
  · exact ⟨o, k _ _ e, r⟩
  · exact ⟨o, (N _ hm).1, r⟩
theorem Src.mono {tup : Bool} {h₀ : Heap} {ax : Addr} {its : Array Value} {nx nx' : List (Addr × Obj)} (x : Src tup h₀ ax its nx) (hs : ∀ p ∈ nx, p ∈ nx') : Src tup h₀ ax its nx' := by
  obtain ⟨o, e | hm, r⟩ := x
  · exact ⟨o, .inl e, r⟩
  · exact ⟨o, .inr (hs _ hm), r⟩

def iterObj (tup : Bool) (ax : Addr) : Obj := { cls := .type (if tup = true then "tuple_iterator" else "list_iterator"), data := .fields #[.ref ax, .int 0 0] }
def IterAt (tup : Bool) (h : Heap) (I ax : Addr) (i : Nat) (its : Array Value) : Prop := if tup = true then h.IsTupleIter I ax i ∧ h.IsTuple ax its else h.IsListIter I ax i ∧ h.IsList ax its
theorem iter_walks (tup : Bool) (hh : A.handled = none) (I ax : Addr) (hne : ax ≠ I) (its : Array Value) :
    Walks prog w A I [I, ax] [I] its.size (fun i v => its[i]? = some v) (fun i h => IterAt tup h I ax i its) := by
  cases tup with
  | true => simpa [IterAt] using Walks.tuple (prog := prog) (w := w) hh I ax hne its
  | false => simpa [IterAt] using Walks.list (prog := prog) (w := w) hh I ax hne its
theorem iter_start (tup : Bool) {ax : Addr} {its : Array Value} {Q : Value → Shared → Prop} {o : Obj} (ho : s.heap.get? ax = some o) (hc : o.cls = .type (if tup = true then "tuple" else "list")) (hd : ∃ n, o.data = .seq its n)
    (h : Q (.ref s.heap.objs.size) { s with heap := s.heap.push (iterObj tup ax) }) : wpAny (model prog w) A (pyIter (.ref ax)) Q E s := by
  cases tup with
  | true => exact wpAny_pyIter_tuple (items := its) ⟨o, ho, hc, hd⟩ h
  | false => exact wpAny_pyIter_list (items := its) ⟨o, ho, hc, hd⟩ h
theorem IterAt.obj {tup : Bool} {h : Heap} {I ax : Addr} {i : Nat} {its : Array Value} (x : IterAt tup h I ax i its) : ∃ o, h.get? I = some o := by
  cases tup with
  | true => obtain ⟨⟨o, e, _⟩, _⟩ := x; exact ⟨o, e⟩
  | false => obtain ⟨⟨o, e, _⟩, _⟩ := x; exact ⟨o, e⟩
theorem IterAt.keep {tup : Bool} {h₀ h h' : Heap} {L I ax : Addr} {i : Nat} {its : Array Value} {o : Obj} {nx : List (Addr × Obj)} (x : IterAt tup h I ax i its) (e : h.get? I = some o) (e' : h'.get? I = some o)
    (k : ∀ b o, h₀.get? b = some o → h'.get? b = some o) (N : News h₀ L h' nx) (S : Src tup h₀ ax its nx) : IterAt tup h' I ax i its := by
  obtain ⟨oa, ea, ca, da⟩ := S.get k N
  cases tup with
  | true => obtain ⟨⟨o', q, r⟩, _⟩ := x; rw [e] at q; cases q; exact ⟨⟨o, e', r⟩, oa, ea, ca, da⟩
  | false => obtain ⟨⟨o', q, r⟩, _⟩ := x; rw [e] at q; cases q; exact ⟨⟨o, e', r⟩, oa, ea, ca, da⟩
theorem IterAt.letGo {tup : Bool} {I ax t : Addr} {i : Nat} {its : Array Value} {elts : List PySem.Expr} {x1} {pos : Pos} {Q : Unit → Shared → Prop} (x : IterAt tup s.heap I ax i its) (hQ : Q () s) :
    wpAny (model prog w) A (letOwnedTupleGo (.Tuple elts x1 pos) (.ref I) (.ref t)) Q E s := by
  cases tup with
  | true => exact letGo_tupiter x.1 hQ
  | false => exact wpAny_letOwnedTupleGo_listiter x.1 hQ

/-- the end of a turn, the names that are free -/
def TurnJ (free : List Str) (m₀ : Str → Option Value) (J : (Str → Option Value) → List (Addr × Obj) → Prop) (m : Str → Option Value) (nx : List (Addr × Obj)) : Prop := (∀ z, free.contains z = false → m z = m₀ z) ∧ J m nx
def frM (free : List Str) (u m₀ : Str → Option Value) : Str → Option Value := fun y => if free.contains y = true then u y else m₀ y
theorem frM_eq {free : List Str} {m₀ m : Str → Option Value} (h : ∀ z, free.contains z = false → m z = m₀ z) : m = frM free m m₀ := by
  funext z
  unfold frM
  cases e : free.contains z with
  | true => rfl
  | false => simp [h z e]

theorem iter_gen {tup : Bool} {target : PySem.Expr} {body : List Stmt} {Q : Flow → Shared → Prop} {ax : Addr} {its : Array Value} {m₀ : Str → Option Value} {news : List (Addr × Obj)} (free : List Str) (J : Nat → (Str → Option Value) → List (Addr × Obj) → Prop)
    (hh : A.handled = none) (S : Src tup h₀ ax its news) (F : Fr h₀ env.locals s.heap m₀) (N : News h₀ env.locals s.heap news) (hj : J 0 m₀ news) (hS : ∀ i m' nx, J i m' nx → Src tup h₀ ax its nx)
    (step : ∀ i v u nx I oI h tk, its[i]? = some v → J i (frM free u m₀) nx → (∀ p ∈ nx, p.1 ≠ I) → Fr h₀ env.locals h (frM free u m₀) → News h₀ env.locals h ((I, oI) :: nx) → IterAt tup h I ax (i + 1) its →
      wpAny (model prog w) A (letOwnedTupleGo target (.ref I) v) (fun _ s₀ => wpAny (model prog w) A (assign target env v) (fun _ s₁ => wpAny (model prog w) A (execs body env)
        (TurnPost h₀ env.locals I oI (TurnJ free m₀ (J (i + 1))) { s with heap := h } Q) (fun _ _ => False) s₁) (fun _ _ => False) s₀) (fun _ _ => False) { s with heap := h, toks := tk })
    (done : ∀ h' tk u nx, Fr h₀ env.locals h' (frM free u m₀) → News h₀ env.locals h' nx → J its.size (frM free u m₀) nx → Q .next { s with heap := h', toks := tk }) :
    wpAny (model prog w) A (pyIter (.ref ax)) (fun it s₂ => codeAny (model prog w) A (.forLoop target it body [] env) (fun r s' => match r with | .ok f => Q f s' | .error _ => False) s₂) E s := by
  obtain ⟨oa, ea, ca, da⟩ := S.get F.keep N
  have hlt : ax < s.heap.objs.size := Heap.lt_size ea
  have hp : (s.heap.push (iterObj tup ax)).get? s.heap.objs.size = some (iterObj tup ax) := Heap.get?_push_size _ rfl
  refine iter_start tup ea ca da ?_
  refine code_loop (h₀ := h₀) (m := m₀) (news := news) (iter_walks tup hh s.heap.objs.size ax (Nat.ne_of_lt hlt) its) (fun _ _ x => x.obj) (Nat.ne_of_gt F.ns.lt) (next_is_new F) (fun i => TurnJ free m₀ (J i)) ?_ (fun p hp => Nat.ne_of_lt (Heap.lt_size (N p hp).1)) ?_ (F.push _)
    (fun p hp => ⟨Heap.get?_push_of_some _ (N p hp).1, (N p hp).2⟩) ⟨fun _ _ => rfl, hj⟩ ?_ ?_
  · intro i h h' o m' nw x e e' k N' j
    exact x.keep e e' k N' (hS _ _ _ j.2)
  · cases tup with
    | true => exact ⟨⟨_, hp, rfl, rfl⟩, oa, Heap.get?_push_of_some _ ea, ca, da⟩
    | false => exact ⟨⟨_, hp, rfl, rfl⟩, oa, Heap.get?_push_of_some _ ea, ca, da⟩
  · rintro i v m₁ nx oI h tk hi hv ⟨hm, hJ⟩ hn F₁ N₁ x
    rw [frM_eq hm] at F₁ hJ
    refine wpAny_mono (step i v m₁ nx _ oI h tk hv hJ hn F₁ N₁ x) (fun _ s₀ h₀' => wpAny_mono h₀' (fun _ s₁ h₁' => wpAny_mono h₁' (fun f s₂ h₂ => ?_) fun _ _ x => x) fun _ _ x => x) fun _ _ x => x
    have fin : TurnEnd h₀ env.locals s.heap.objs.size oI (TurnJ free m₀ (J (i + 1))) { s with heap := h } s₂ → TurnEnd h₀ env.locals s.heap.objs.size oI (TurnJ free m₀ (J (i + 1))) { s with heap := s.heap.push (iterObj tup ax) } s₂ := by
      rintro ⟨h₃, tk₃, m₃, nx₃, all, rfl, r⟩
      exact ⟨h₃, tk₃, m₃, nx₃, all, rfl, r⟩
    cases f with
    | ret v => exact h₂
    | brk => exact h₂
    | cont => exact fin h₂
    | next => exact fin h₂
  · rintro h' tk m' nx F' N' ⟨hm, hJ⟩
    rw [frM_eq hm] at F' hJ
    exact done h' tk m' nx F' N' hJ

theorem iter_name {tup : Bool} {x : Str} {px : Pos} {body : List Stmt} {Q : Flow → Shared → Prop} {ax : Addr} {its : Array Value} {m₀ : Str → Option Value} {news : List (Addr × Obj)} (free : List Str) (J : Nat → (Str → Option Value) → List (Addr × Obj) → Prop)
    (hh : A.handled = none) (hx : env.kindOf x = some .local) (hp : (env.scope.kind == .class || (env.scope.kind == .module && env.locals != env.globals)) = false)
    (S : Src tup h₀ ax its news) (F : Fr h₀ env.locals s.heap m₀) (N : News h₀ env.locals s.heap news) (hj : J 0 m₀ news) (hS : ∀ i m' nx, J i m' nx → Src tup h₀ ax its nx)
    (step : ∀ i v u nx I oI h tk, its[i]? = some v → J i (frM free u m₀) nx → (∀ p ∈ nx, p.1 ≠ I) → Fr h₀ env.locals h (fun y => if y = x then some v else frM free u m₀ y) → News h₀ env.locals h ((I, oI) :: nx) →
      wpAny (model prog w) A (execs body env) (TurnPost h₀ env.locals I oI (TurnJ free m₀ (J (i + 1))) { s with heap := h, toks := tk } Q) (fun _ _ => False) { s with heap := h, toks := tk })
    (done : ∀ h' tk u nx, Fr h₀ env.locals h' (frM free u m₀) → News h₀ env.locals h' nx → J its.size (frM free u m₀) nx → Q .next { s with heap := h', toks := tk }) :
    wpAny (model prog w) A (pyIter (.ref ax)) (fun it s₂ => codeAny (model prog w) A (.forLoop (.Name x px) it body [] env) (fun r s' => match r with | .ok f => Q f s' | .error _ => False) s₂) E s := by
  refine iter_gen free J hh S F N hj hS (fun i v u nx I oI h tk hv hJ hn F₁ N₁ _ => ?_) done
  show wpAny _ _ (pure ()) _ _ _
  refine wpAny_pure (wpAny_assign_Name (wpAny_storeName_local hx F₁.ns (fun h₂ hn₂ hs₂ => ?_) hp))
  refine wpAny_mono (step i v u nx I oI h₂ _ hv hJ hn (F₁.set hn₂ hs₂) (N₁.set hs₂)) (fun f s₂ h₃ => ?_) fun _ _ x => x
  have fin : TurnEnd h₀ env.locals I oI (TurnJ free m₀ (J (i + 1))) { s with heap := h₂, toks := tk + 1 } s₂ → TurnEnd h₀ env.locals I oI (TurnJ free m₀ (J (i + 1))) { s with heap := h } s₂ := by
    rintro ⟨h₉, tk₃, m₃, nx₃, all, rfl, r⟩
    exact ⟨h₉, tk₃, m₃, nx₃, all, rfl, r⟩
  cases f with
  | ret v => exact h₃
  | brk => exact h₃
  | cont => exact fin h₃
  | next => exact fin h₃

theorem iter_pair {tup : Bool} {x y : Str} {px py tp : Pos} {tk₀} {body : List Stmt} {Q : Flow → Shared → Prop} {ax : Addr} {its : Array Value} {m₀ : Str → Option Value} {news : List (Addr × Obj)} (free : List Str) (J : Nat → (Str → Option Value) → List (Addr × Obj) → Prop) (Pi : Nat → Value → Value → Prop)
    (hh : A.handled = none) (hx : env.kindOf x = some .local) (hy : env.kindOf y = some .local) (hp : (env.scope.kind == .class || (env.scope.kind == .module && env.locals != env.globals)) = false)
    (S : Src tup h₀ ax its news) (F : Fr h₀ env.locals s.heap m₀) (N : News h₀ env.locals s.heap news) (hj : J 0 m₀ news) (hS : ∀ i m' nx, J i m' nx → Src tup h₀ ax its nx)
    (hitem : ∀ i v m' nx, its[i]? = some v → J i m' nx → ∃ t v₁ v₂, v = .ref t ∧ Pi i v₁ v₂ ∧ Src true h₀ t #[v₁, v₂] nx)
    (step : ∀ i v₁ v₂ u nx I oI h tk, i < its.size → Pi i v₁ v₂ → J i (frM free u m₀) nx → (∀ p ∈ nx, p.1 ≠ I) → Fr h₀ env.locals h (fun z => if z = y then some v₂ else if z = x then some v₁ else frM free u m₀ z) → News h₀ env.locals h ((I, oI) :: nx) →
      wpAny (model prog w) A (execs body env) (TurnPost h₀ env.locals I oI (TurnJ free m₀ (J (i + 1))) { s with heap := h, toks := tk } Q) (fun _ _ => False) { s with heap := h, toks := tk })
    (done : ∀ h' tk u nx, Fr h₀ env.locals h' (frM free u m₀) → News h₀ env.locals h' nx → J its.size (frM free u m₀) nx → Q .next { s with heap := h', toks := tk }) :
    wpAny (model prog w) A (pyIter (.ref ax)) (fun it s₂ => codeAny (model prog w) A (.forLoop (.Tuple [.Name x px, .Name y py] tk₀ tp) it body [] env) (fun r s' => match r with | .ok f => Q f s' | .error _ => False) s₂) E s := by
  refine iter_gen free J hh S F N hj hS (fun i v u nx I oI h tk hv hJ hn F₁ N₁ hIt => ?_) done
  obtain ⟨t, v₁, v₂, rfl, hPi, St⟩ := hitem i v _ nx hv hJ
  refine hIt.letGo ?_
  obtain ⟨ot, et, ct, dt⟩ := (St.mono (fun p hp => List.mem_cons_of_mem _ hp)).get F₁.keep N₁
  have hi : i < its.size := by obtain ⟨h, _⟩ := Array.getElem?_eq_some_iff.mp hv; exact h
  refine assign_Tuple_tuple hh (items := #[v₁, v₂]) ⟨ot, et, ct, dt⟩ rfl rfl fun h₅ he => ?_
  have he' : ∀ b o, h.get? b = some o → h₅.get? b = some o := fun b o e => he b o (Nat.ne_of_lt (Heap.lt_size e)) e
  have F₅ := F₁.keeps he'
  have N₅ := N₁.grown he'
  refine assignInOrder_cons (wpAny_assign_Name (wpAny_storeName_local hx F₅.ns (fun h₆ hn₆ hs₆ => ?_) hp))
  have F₆ := F₅.set hn₆ hs₆
  have N₆ := N₅.set hs₆
  refine assignInOrder_cons (wpAny_assign_Name (wpAny_storeName_local hy F₆.ns (fun h₇ hn₇ hs₇ => ?_) hp))
  refine assignInOrder_nil ?_
  refine wpAny_mono (step i v₁ v₂ u nx I oI h₇ _ hi hPi hJ hn (F₆.set hn₇ hs₇) (N₆.set hs₇)) (fun f s₂ h₃ => ?_) fun _ _ x => x
  have fin : ∀ tk', TurnEnd h₀ env.locals I oI (TurnJ free m₀ (J (i + 1))) { s with heap := h₇, toks := tk' } s₂ → TurnEnd h₀ env.locals I oI (TurnJ free m₀ (J (i + 1))) { s with heap := h } s₂ := by
    rintro tk' ⟨h₉, tk₃, m₃, nx₃, all, rfl, r⟩
    exact ⟨h₉, tk₃, m₃, nx₃, all, rfl, r⟩
  cases f with
  | ret v => exact h₃
  | brk => exact h₃
  | cont => exact fin _ h₃
  | next => exact fin _ h₃
end
end Mine
namespace Mine
def kinds : List Str := [Str.ofString "closed", Str.ofString "idle", Str.ofString "loss", Str.ofString "probe", Str.ofString "ack", Str.ofString "path"]
theorem kinds_at {w : World} {h : Heap} (X : (Mine.hd.heap_39 w.params).In h) : ∃ vs n, h.get? 15 = some ⟨.type "tuple", none, .seq (List.toArray vs) n, #[]⟩ ∧ StrsAre vs kinds :=
  ⟨_, _, X 15 _ rfl, .cons _ _ (.cons _ _ (.cons _ _ (.cons _ _ (.cons _ _ (.cons _ _ .nil)))))⟩
theorem strs_get {vs : List Value} {ks : List Str} (h : StrsAre vs ks) : ∀ i, (hi : i < ks.length) → ∃ u, vs[i]? = some (.str ks[i] u) := by
  induction h with
  | nil => intro i hi; exact absurd hi (Nat.not_lt_zero _)
  | cons y t _ ih =>
    intro i hi
    cases i with
    | zero => exact ⟨t, rfl⟩
    | succ i => exact ih i (Nat.lt_of_succ_lt_succ hi)
theorem strs_len {vs : List Value} {ks : List Str} (h : StrsAre vs ks) : vs.length = ks.length := by
  induction h with
  | nil => rfl
  | cons _ _ _ ih => rw [List.length_cons, List.length_cons, ih]
theorem kinds_nodup : kinds.Nodup := by decide +kernel
theorem kinds_idx {i j : Nat} (hi : i < kinds.length) (hj : j < kinds.length) (h : i ≠ j) : kinds[i] ≠ kinds[j] := fun e => h ((List.getElem_inj kinds_nodup).mp e)
section
variable {prog : Program} {w : World} {A : Around} {E : Value → Shared → Prop} {s : Shared}

theorem tup_index {t : Addr} {o : Obj} {its : Array Value} {n : Nat} {k : Str} {tn : Tok} {j : Nat} {Q : Value → Shared → Prop}
    (ho : s.heap.get? t = some o) (hc : o.cls = .type "tuple") (hd : o.data = .seq its n) (hj : j < its.size)
    (hit : ∃ u, its[j]? = some (.str k u)) (hno : ∀ i, i < j → ∃ k' u, its[i]? = some (.str k' u) ∧ k' ≠ k) (h : Q (.int j s.toks) { s with toks := s.toks + 1 }) :
    wpAny (model prog w) A (call (.builtin "tuple.index") [.ref t, .str k tn]) Q E s := by
  refine wpAny_call_entry F.slot_tuple_index ⟨o, ho, hc⟩ F.entry_tuple_index ?_ (F.args_tuple_index_2 _ _)
  show wpAny _ _ (Builtin.Tuple.tupleItemsOf (.ref t) >>= _) _ _ s
  refine wpAny_bind ?_
  unfold Builtin.Tuple.tupleItemsOf
  refine wpAny_bind (wpAny_seqItems ho hd (wpAny_pure ?_))
  dsimp only
  refine wpAny_bind (wpAny_pure (wpAny_bind (wpAny_pure ?_)))
  rw [Std.Legacy.Range.forIn_eq_forIn_range']
  simp only [Std.Legacy.Range.size, Nat.sub_zero, Nat.add_sub_cancel, Nat.div_one, Nat.min_self]
  refine wpAny_bind (wpAny_forIn_list _ (fun rest b s' => s' = s ∧ b = (none, ()) ∧ ∃ i, i ≤ j ∧ rest = List.range' i (its.size - i)) _ ?_ ?_ _ _ ⟨rfl, rfl, 0, Nat.zero_le _, by simp⟩)
  · rintro x rest b s' ⟨rfl, rfl, i, hij, hr⟩
    have hlt : i < its.size := Nat.lt_of_le_of_lt hij hj
    have e : its.size - i = (its.size - (i + 1)) + 1 := by omega
    rw [e, List.range'_succ] at hr
    injection hr with h1 h2
    subst h1
    by_cases hxj : x = j
    · subst hxj
      obtain ⟨u, hu⟩ := hit
      rw [hu]
      refine wpAny_bind (wpAny_eqBool_str ?_)
      simp only [decide_true, if_true]
      refine wpAny_bind ?_
      unfold retInt
      refine wpAny_bind (wpAny_mkInt ?_)
      refine wpAny_pure (wpAny_pure ?_)
      exact wpAny_pure ⟨_, rfl, h⟩
    · obtain ⟨k', u, hu, hne⟩ := hno x (by omega)
      rw [hu]
      refine wpAny_bind (wpAny_eqBool_str ?_)
      simp only [decide_eq_true_eq, if_neg hne]
      exact wpAny_pure ⟨rfl, rfl, x + 1, by omega, h2⟩
  · rintro b s' ⟨rfl, rfl, i, hij, hr⟩
    exfalso
    have : (List.range' i (its.size - i)).length = 0 := by rw [← hr]; rfl
    rw [List.length_range'] at this
    omega

variable {h₀ : Heap} {L : Addr} {m : Str → Option Value}
theorem kinds_method {pl : Sem Bool} {Q : Value × List Value → Shared → Prop} (F : Fr h₀ L s.heap m) (X : (Mine.hd.heap_39 w.params).In h₀) (h : Q (.builtin "tuple.index", [.ref 15]) s) :
    wpAny (model prog w) A (getMethod (.ref 15) (Str.ofString "index") pl) Q E s := by
  obtain ⟨vs, n, e, _⟩ := kinds_at X
  exact getMethod_builtin (T := "tuple") ⟨_, F.keep _ _ e, rfl⟩ PySem.F.plainAttrs_tuple PySem.F.slot_tuple_index PySem.F.type_tuple_index (fun a ea => by cases ea; exact ⟨_, F.keep _ _ e, rfl⟩) h
theorem kinds_index {i : Nat} {k : Str} {tn : Tok} {Q : Value → Shared → Prop} (F : Fr h₀ L s.heap m) (X : (Mine.hd.heap_39 w.params).In h₀) (hi : i < kinds.length) (hk : k = kinds[i]) (h : Q (.int i s.toks) { s with toks := s.toks + 1 }) :
    wpAny (model prog w) A (call (.builtin "tuple.index") [.ref 15, .str k tn]) Q E s := by
  subst hk
  obtain ⟨vs, n, e, hs⟩ := kinds_at X
  have hl := strs_len hs
  refine tup_index (F.keep _ _ e) rfl rfl (j := i) (by simpa [hl] using hi) ?_ (fun j hj => ?_) h
  · obtain ⟨u, hu⟩ := strs_get hs i hi
    exact ⟨u, by simpa using hu⟩
  · have hj' : j < kinds.length := Nat.lt_trans hj hi
    obtain ⟨u, hu⟩ := strs_get hs j hj'
    exact ⟨_, u, by simpa using hu, kinds_idx hj' hi (Nat.ne_of_lt hj)⟩
theorem kinds_src (X : (Mine.hd.heap_39 w.params).In h₀) : ∃ vs, StrsAre vs kinds ∧ ∀ tail, Src true h₀ 15 (List.toArray vs) tail := by
  obtain ⟨vs, n, e, hs⟩ := kinds_at X
  exact ⟨vs, hs, fun _ => ⟨_, .inl e, rfl, n, rfl⟩⟩
theorem Fr.as {h h' : Heap} {m' : Str → Option Value} (_ : Fr h₀ L h m) (F : Fr h₀ L h' m') : Fr h₀ L h' m' := F
theorem News.as {h h' : Heap} {nx : List (Addr × Obj)} (_ : Fr h₀ L h m) (N : News h₀ L h' nx) : News h₀ L h' nx := N
end
end Mine
namespace Mine
def evalOk {α : Type} (n : Nat) (lt : Nat → Nat → Bool) : KasT α → Option α
  | .ret a => some a
  | .ask i j k => if i < n ∧ j < n then evalOk n lt (k (lt i j)) else none
def leaf (n : Nat) (r : List Nat) : Bool :=
  match evalOk n (fun i j => decide (r.getD i 1000 < r.getD j 1000)) (kas_sort n) with
  | some p => decide (p.toList.map (fun i => r.getD i 1000) = List.range n)
  | none => false
def chk (n : Nat) : Nat → List Nat → Bool
  | 0, r => leaf n r
  | k + 1, r => (List.range n).all fun a => r.contains a || chk n k (r ++ [a])
theorem chk_all (n : Nat) : ∀ (k : Nat) (r : List Nat), chk n k r = true → ∀ s : List Nat, s.length = k → (r ++ s).Nodup → (∀ a ∈ s, a < n) → leaf n (r ++ s) = true
  | 0, r, h, s, hl, _, _ => by
    have : s = [] := List.eq_nil_of_length_eq_zero hl
    subst this
    simpa [chk] using h
  | k + 1, r, h, s, hl, hn, hb => by
    cases s with
    | nil => simp at hl
    | cons a s =>
      have ha := List.all_eq_true.mp h a (List.mem_range.mpr (hb a (.head _)))
      have hna : a ∉ r := fun hm => (List.nodup_append.mp hn).2.2 a hm a (.head _) rfl
      have ha' : chk n k (r ++ [a]) = true := by
        simp only [Bool.or_eq_true] at ha
        rcases ha with ha | ha
        · exact absurd (List.contains_iff_mem.mp ha) hna
        · exact ha
      have := chk_all n k (r ++ [a]) ha' s (by simpa using hl) (by simpa using hn) fun b hm => hb b (.tail _ hm)
      simpa using this
theorem chk2 : chk 2 2 [] = true := by decide +kernel
theorem chk3 : chk 3 3 [] = true := by decide +kernel
theorem chk4 : chk 4 4 [] = true := by decide +kernel
theorem chk5 : chk 5 5 [] = true := by decide +kernel
theorem chk6a : chk 6 5 [0] = true := by decide +kernel
theorem chk6b : chk 6 5 [1] = true := by decide +kernel
theorem chk6c : chk 6 5 [2] = true := by decide +kernel
theorem chk6d : chk 6 5 [3] = true := by decide +kernel
theorem chk6e : chk 6 5 [4] = true := by decide +kernel
theorem chk6f : chk 6 5 [5] = true := by decide +kernel
theorem leaf_all {n : Nat} (h2 : 2 ≤ n) (h6 : n ≤ 6) (r : List Nat) (hl : r.length = n) (hn : r.Nodup) (hb : ∀ a ∈ r, a < n) : leaf n r = true := by
  have go : ∀ k, chk k k [] = true → n = k → leaf n r = true := fun k hk e => by
    subst e
    simpa using chk_all n n [] hk r hl (by simpa using hn) hb
  rcases Nat.lt_or_ge n 6 with h | h
  · have : n = 2 ∨ n = 3 ∨ n = 4 ∨ n = 5 := by omega
    rcases this with e | e | e | e
    · exact go 2 chk2 e
    · exact go 3 chk3 e
    · exact go 4 chk4 e
    · exact go 5 chk5 e
  · obtain rfl : n = 6 := Nat.le_antisymm h6 h
    cases r with
    | nil => simp at hl
    | cons a s =>
      have go6 : chk 6 5 [a] = true → leaf 6 (a :: s) = true := fun hk => chk_all 6 5 [a] hk s (by simpa using hl) hn fun b hm => hb b (.tail _ hm)
      have ha := hb a (.head _)
      have : a = 0 ∨ a = 1 ∨ a = 2 ∨ a = 3 ∨ a = 4 ∨ a = 5 := by omega
      rcases this with e | e | e | e | e | e <;> subst e
      · exact go6 chk6a
      · exact go6 chk6b
      · exact go6 chk6c
      · exact go6 chk6d
      · exact go6 chk6e
      · exact go6 chk6f

theorem evalOk_congr {α : Type} {n : Nat} {f g : Nat → Nat → Bool} (h : ∀ i j, i < n → j < n → f i j = g i j) : ∀ t : KasT α, evalOk n f t = evalOk n g t
  | .ret _ => rfl
  | .ask i j k => by
    unfold evalOk
    by_cases hij : i < n ∧ j < n
    · rw [if_pos hij, if_pos hij, h i j hij.1 hij.2]; exact evalOk_congr h _
    · rw [if_neg hij, if_neg hij]
theorem wp_evalOk {α : Type} {n : Nat} {lt : Nat → Nat → Bool} {cmp : Nat → Nat → (Bool → Shared → Prop) → Shared → Prop} {s : Shared} (hc : ∀ i j, i < n → j < n → ∀ C : Bool → Shared → Prop, C (lt i j) s → cmp i j C s) :
    ∀ (t : KasT α) (a : α) (G : α → Shared → Prop), evalOk n lt t = some a → G a s → t.kasWp cmp G s
  | .ret b, a, G, e, g => by
    unfold evalOk at e
    cases e
    exact g
  | .ask i j k, a, G, e, g => by
    unfold evalOk at e
    by_cases hij : i < n ∧ j < n
    · rw [if_pos hij] at e
      exact hc i j hij.1 hij.2 _ (wp_evalOk hc (k (lt i j)) a G e g)
    · rw [if_neg hij] at e; cases e

theorem countP_lt {α : Type} {p q : α → Bool} : ∀ (l : List α), (∀ x ∈ l, p x = true → q x = true) → (∃ x ∈ l, q x = true ∧ p x = false) → l.countP p < l.countP q
  | [], _, ⟨_, hm, _⟩ => nomatch hm
  | y :: l, h, ⟨x, hm, hq, hp⟩ => by
    have hle : ∀ l' : List α, (∀ x ∈ l', p x = true → q x = true) → l'.countP p ≤ l'.countP q := fun l' h' => List.countP_mono_left h'
    rw [List.countP_cons, List.countP_cons]
    have hl := hle l fun x hx => h x (.tail _ hx)
    have hy := h y (.head _)
    rcases List.mem_cons.mp hm with rfl | hm
    · rw [hq, hp]; simp only [if_true, Bool.false_eq_true, if_false]; omega
    · have := countP_lt l (fun x hx => h x (.tail _ hx)) ⟨x, hm, hq, hp⟩
      cases hpy : p y with
      | true => rw [hy hpy]; simp only [if_true]; omega
      | false => cases q y <;> simp only [if_true, Bool.false_eq_true, if_false] <;> omega

structure Tot (n : Nat) (lt : Nat → Nat → Bool) : Prop where
  irr : ∀ i, i < n → lt i i = false
  tr : ∀ i j k, i < n → j < n → k < n → lt i j = true → lt j k = true → lt i k = true
  tot : ∀ i j, i < n → j < n → i ≠ j → lt i j = true ∨ lt j i = true

theorem sort_perm {n : Nat} {lt : Nat → Nat → Bool} (h2 : 2 ≤ n) (h6 : n ≤ 6) (H : Tot n lt) :
    ∃ p : Array Nat, evalOk n lt (kas_sort n) = some p ∧ p.toList.Perm (List.range n) ∧ p.toList.Pairwise (fun i j => lt i j = true) := by
  let rk : Nat → Nat := fun i => (List.range n).countP (fun k => lt k i)
  have hrk : ∀ i j, i < n → j < n → lt i j = true → rk i < rk j := fun i j hi hj hij =>
    countP_lt _ (fun x hx hxi => H.tr x i j (List.mem_range.mp hx) hi hj hxi hij) ⟨i, List.mem_range.mpr hi, hij, H.irr i hi⟩
  have hrn : ∀ i, i < n → rk i < n := fun i hi => by
    have := countP_lt (p := fun k => lt k i) (q := fun _ => true) (List.range n) (fun _ _ _ => rfl) ⟨i, List.mem_range.mpr hi, rfl, H.irr i hi⟩
    simpa using this
  have hinj : ∀ i j, i < n → j < n → rk i = rk j → i = j := fun i j hi hj e => by
    by_cases hij : i = j
    · exact hij
    · rcases H.tot i j hi hj hij with h | h
      · have := hrk i j hi hj h; omega
      · have := hrk j i hj hi h; omega
  have hlt : ∀ i j, i < n → j < n → lt i j = decide (rk i < rk j) := fun i j hi hj => by
    by_cases h : lt i j = true
    · rw [h, decide_eq_true (hrk i j hi hj h)]
    · have h' : lt i j = false := by simpa using h
      rw [h']
      by_cases hij : i = j
      · subst hij; simp
      · rcases H.tot i j hi hj hij with h | h
        · rw [h'] at h; cases h
        · have := hrk j i hj hi h
          rw [decide_eq_false (by omega)]
  let r := (List.range n).map rk
  have hg : ∀ i, i < n → r.getD i 1000 = rk i := fun i hi => by simp [r, hi]
  have hlf := leaf_all h2 h6 r (by simp [r]) (by
    show ((List.range n).map rk).Nodup
    rw [List.Nodup, List.pairwise_map]
    exact List.nodup_range.imp_of_mem fun {a b} ha hb hab e => hab (hinj a b (List.mem_range.mp ha) (List.mem_range.mp hb) e)) (fun a ha => by
    obtain ⟨i, hi, rfl⟩ := List.mem_map.mp ha
    exact hrn i (List.mem_range.mp hi))
  unfold leaf at hlf
  rw [← evalOk_congr (f := lt) (fun i j hi hj => by rw [hg i hi, hg j hj]; exact hlt i j hi hj)] at hlf
  cases he : evalOk n lt (kas_sort n) with
  | none => rw [he] at hlf; cases hlf
  | some p =>
    rw [he] at hlf
    have hm : p.toList.map (fun i => r.getD i 1000) = List.range n := of_decide_eq_true hlf
    have hb : ∀ a ∈ p.toList, a < n := fun a ha => by
      have : r.getD a 1000 ∈ List.range n := hm ▸ List.mem_map.mpr ⟨a, ha, rfl⟩
      have h1 := List.mem_range.mp this
      rcases Nat.lt_or_ge a n with h | h
      · exact h
      · have : r.getD a 1000 = 1000 := by
          have : r.length ≤ a := by simp [r]; exact h
          simp [List.getD, List.getElem?_eq_none this]
        omega
    have hnd : p.toList.Nodup := by
      have : (p.toList.map (fun i => r.getD i 1000)).Nodup := hm ▸ List.nodup_range
      rw [List.Nodup, List.pairwise_map] at this
      exact this.imp fun h e => h (by rw [e])
    refine ⟨p, rfl, ?_, ?_⟩
    · refine (List.perm_ext_iff_of_nodup hnd List.nodup_range).mpr fun a => ⟨fun ha => List.mem_range.mpr (hb a ha), fun ha => ?_⟩
      have ha' := List.mem_range.mp ha
      have h1 : r.getD a 1000 ∈ p.toList.map (fun i => r.getD i 1000) := by rw [hm, hg a ha']; exact List.mem_range.mpr (hrn a ha')
      obtain ⟨b, hb', e⟩ := List.mem_map.mp h1
      rw [hg a ha', hg b (hb b hb')] at e
      rw [← hinj b a (hb b hb') ha' e]; exact hb'
    · have h1 : (p.toList.map (fun i => r.getD i 1000)).Pairwise (· < ·) := hm ▸ List.pairwise_lt_range
      rw [List.pairwise_map] at h1
      exact h1.imp_of_mem fun {a b} ha hb' h => by
        rw [hg a (hb a ha), hg b (hb b hb')] at h
        rw [hlt a b (hb a ha) (hb b hb')]
        exact decide_eq_true h
end Mine
namespace Mine
section
variable {prog : Program} {w : World} {A : Around} {E : Value → Shared → Prop} {s : Shared} {h₀ : Heap} {L a l : Addr} {m : Str → Option Value} {news : List (Addr × Obj)} {vs : List Value}

theorem list_sort_small {n : Nat} {P : PySem.Fin → Shared → Prop} (F : Fr h₀ L s.heap m) (N : News h₀ L s.heap news) (ho : s.heap.get? a = some (seqObj "list" vs.toArray n)) (haL : a ≠ L) (ha0 : h₀.get? a = none) (hna : ∀ p ∈ news, p.1 ≠ a)
    (h2 : vs.length < 2)
    (h : ∀ c h', Fr h₀ L h' m → News h₀ L h' ((a, PySem.W.listOf vs.toArray c) :: news) → P (.done (.ret .none)) { s with heap := h' }) :
    wpAny (model prog w) A (Builtin.«list.sort» ⟨[.ref a], []⟩) P E s := by
  have ha : a < s.heap.objs.size := Heap.lt_size ho
  have s1 := Heap.SameBut.update s.heap a (Obj.mapSeq fun _ => (#[] : Array Value))
  obtain ⟨e1, ho1⟩ : ∃ e1, (s.heap.update a (Obj.mapSeq fun _ => (#[] : Array Value))).get? a = some (seqObj "list" #[] e1) := ⟨_, get?_update_seq ho fun _ => #[]⟩
  have F3 : Fr h₀ L (((s.heap.update a (Obj.mapSeq fun _ => (#[] : Array Value))).push (seqObj "tuple" vs.toArray 0)).push (seqObj "list" #[] 0)) m := ((kas_fr F s1 haL ha0).push _).push _
  have N2 : News h₀ L (((s.heap.update a (Obj.mapSeq fun _ => (#[] : Array Value))).push (seqObj "tuple" vs.toArray 0)).push (seqObj "list" #[] 0)) news :=
    (kas_news N s1 hna).grown fun b x e => Heap.get?_push_of_some _ (Heap.get?_push_of_some _ e)
  have ho3 : (((s.heap.update a (Obj.mapSeq fun _ => (#[] : Array Value))).push (seqObj "tuple" vs.toArray 0)).push (seqObj "list" #[] 0)).get? a = some (seqObj "list" #[] e1) := Heap.get?_push_of_some _ (Heap.get?_push_of_some _ ho1)
  rw [list_sort_plain]
  refine wpAny_bind (listItems_at ho rfl ?_)
  refine wpAny_bind (listUpdate_at ho rfl ?_ (by rw [List.size_toArray, sizeLine_eq]; omega) (Nat.zero_le _))
  refine wpAny_bind (seqEpoch_at ho1 rfl ?_)
  refine wpAny_bind (wpAny_newTuple ?_ (by show vs.length ≤ _; rw [sizeLine_eq]; omega))
  refine wpAny_bind (wpAny_newList ?_ (Nat.zero_le _))
  refine wpAny_holding ?_
  show wpAny (model prog w) A _ P E { s with heap := ((s.heap.update a (Obj.mapSeq fun _ => (#[] : Array Value))).push (seqObj "tuple" vs.toArray 0)).push (seqObj "list" #[] 0) }
  dsimp only
  have hn2 : vs.toArray.size < 2 := by rw [List.size_toArray]; omega
  rw [if_pos hn2, if_pos hn2]
  refine wpAny_bind (wpAny_pure ?_)
  refine wpAny_bind (wpAny_pure ?_)
  dsimp only
  have hout : (arrOf (SortSt.mk' general' (vs.toArray.zip vs.toArray) #[] 7 none)).map (·.2) = vs.toArray := by
    show (vs.toArray.zip vs.toArray).map (·.2) = vs.toArray
    apply Array.toList_inj.mp
    simp [List.map_snd_zip]

  rw [hout]
  have s2 := Heap.SameBut.update (((s.heap.update a (Obj.mapSeq fun _ => (#[] : Array Value))).push (seqObj "tuple" vs.toArray 0)).push (seqObj "list" #[] 0)) a (Obj.mapSeq fun _ => vs.toArray)
  obtain ⟨c2, hc2⟩ : ∃ c2, ((((s.heap.update a (Obj.mapSeq fun _ => (#[] : Array Value))).push (seqObj "tuple" vs.toArray 0)).push (seqObj "list" #[] 0)).update a (Obj.mapSeq fun _ => vs.toArray)).get? a = some (seqObj "list" vs.toArray c2) := ⟨_, get?_update_seq ho3 fun _ => vs.toArray⟩
  refine wpAny_bind (seqEpoch_at ho3 rfl ?_)
  refine wpAny_bind (listUpdate_at ho3 rfl ?_ (Nat.zero_le _) (by rw [List.size_toArray, sizeLine_eq]; omega))
  simp only [bne_self_eq_false, Bool.false_eq_true, if_false]
  refine wpAny_pure (h c2 _ (kas_fr F3 s2 haL ha0) fun p hp => ?_)
  rcases List.mem_cons.mp hp with rfl | hp
  · exact ⟨hc2, haL, ha0⟩
  · exact kas_news N2 s2 hna p hp

theorem sorted_small {Q : Value → Shared → Prop} (F : Fr h₀ L s.heap m) (N : News h₀ L s.heap news) (hl : s.heap.IsList l vs.toArray) (h2 : vs.length < 2)
    (h : ∀ D c h', Fr h₀ L h' m → News h₀ L h' ((D, PySem.W.listOf vs.toArray c) :: news) → (∀ q ∈ news, q.1 < D) → Q (.ref D) { s with heap := h' }) :
    wpAny (model prog w) A (call (.builtin "sorted") [.ref l]) Q E s := by
  refine Calls.call_function_entry kind_sorted plain_sorted entry_sorted (args_sorted1 _) ?_
  unfold Builtin.«sorted»
  refine wpAny_bind (m := checkCount "sorted" 1 1 _) (wpAny_pure ?_)
  refine wpAny_bind (collect_list hl ?_ (by rw [sizeLine_eq]; omega))
  refine wpAny_bind (wpAny_newList ?_ (by rw [sizeLine_eq]; omega))
  have hsz : ((s.heap.push (seqObj "list" #[] 0)).update s.heap.objs.size (Obj.mapSeq (· ++ vs.toArray))).objs.size = s.heap.objs.size + 1 := by
    rw [Heap.size_update, size_push']
  have hoL : (((s.heap.push (seqObj "list" #[] 0)).update s.heap.objs.size (Obj.mapSeq (· ++ vs.toArray))).push (seqObj "list" vs.toArray 0)).get? (s.heap.objs.size + 1) = some (seqObj "list" vs.toArray 0) := by
    rw [← hsz]; exact Heap.get?_push_size _ rfl
  have keep : ∀ b o, s.heap.get? b = some o → (((s.heap.push (seqObj "list" #[] 0)).update s.heap.objs.size (Obj.mapSeq (· ++ vs.toArray))).push (seqObj "list" vs.toArray 0)).get? b = some o := fun b o q => by
    have hlt : b < s.heap.objs.size := Heap.lt_size q
    rw [Heap.get?_push_ne _ _ _ (by rw [hsz]; exact Nat.ne_of_lt (Nat.lt_succ_of_lt hlt)), Heap.get?_update_ne _ _ _ _ (Nat.ne_of_lt hlt), Heap.get?_push_ne _ _ _ (Nat.ne_of_lt hlt)]
    exact q
  have hL : L < s.heap.objs.size := F.ns.lt
  show wpAny _ _ _ _ _ { s with heap := ((s.heap.push (seqObj "list" #[] 0)).update s.heap.objs.size (Obj.mapSeq (· ++ vs.toArray))).push (seqObj "list" vs.toArray 0) }
  rw [hsz]
  refine wpAny_bind (wpAny_holding (wpAny_call_entry slot_list_sort ⟨_, hoL, rfl⟩ entry_list_sort ?body (args_list_sort _)))
  case body =>
    exact list_sort_small (s := { s with heap := ((s.heap.push (seqObj "list" #[] 0)).update s.heap.objs.size (Obj.mapSeq (· ++ vs.toArray))).push (seqObj "list" vs.toArray 0) })
      (F.kept keep) (N.grown keep) hoL (Nat.ne_of_gt (Nat.lt_succ_of_lt hL)) (Heap.get?_none_of_le (Nat.le_trans F.above (Nat.le_succ_of_le (Nat.le_of_lt hL))))
      (fun p hp => Nat.ne_of_lt (Nat.lt_succ_of_lt (Heap.lt_size (N p hp).1))) h2 fun c h' F' N' => ⟨_, rfl, wpAny_pure ⟨_, rfl, h _ c h' F' N' fun q hq => Nat.lt_succ_of_lt (Heap.lt_size (N q hq).1)⟩⟩

inductive PairsAre (news : List (Addr × Obj)) : List Value → List (Value × Value) → Prop
  | nil : PairsAre news [] []
  | cons {a : Addr} {v₁ v₂ : Value} {n : Nat} {vs : List Value} {ps : List (Value × Value)} : (a, ({ cls := .type "tuple", data := .seq #[v₁, v₂] n } : Obj)) ∈ news → PairsAre news vs ps → PairsAre news (.ref a :: vs) ((v₁, v₂) :: ps)
theorem PairsAre.mono {news news' : List (Addr × Obj)} {vs : List Value} {ps : List (Value × Value)} (h : PairsAre news vs ps) (hs : ∀ p ∈ news, p ∈ news') : PairsAre news' vs ps := by
  induction h with
  | nil => exact .nil
  | cons hm _ ih => exact .cons (hs _ hm) ih
theorem PairsAre.length {news : List (Addr × Obj)} {vs : List Value} {ps : List (Value × Value)} (h : PairsAre news vs ps) : vs.length = ps.length := by
  induction h with
  | nil => rfl
  | cons _ _ ih => rw [List.length_cons, List.length_cons, ih]
theorem PairsAre.append {news : List (Addr × Obj)} {vs us : List Value} {ps qs : List (Value × Value)} (h : PairsAre news vs ps) (k : PairsAre news us qs) : PairsAre news (vs ++ us) (ps ++ qs) := by
  induction h with
  | nil => exact k
  | cons hm _ ih => exact .cons hm ih
theorem PairsAre.get {news : List (Addr × Obj)} {vs : List Value} {ps : List (Value × Value)} (h : PairsAre news vs ps) : ∀ i, (hi : i < ps.length) → ∃ a n, vs[i]? = some (.ref a) ∧ (a, ({ cls := .type "tuple", data := .seq #[ps[i].1, ps[i].2] n } : Obj)) ∈ news := by
  induction h with
  | nil => intro i hi; exact absurd hi (Nat.not_lt_zero _)
  | @cons a v₁ v₂ n vs ps hm _ ih =>
    intro i hi
    cases i with
    | zero => exact ⟨a, n, rfl, hm⟩
    | succ i => exact ih i (Nat.lt_of_succ_lt_succ hi)
theorem PairsAre.pick {news : List (Addr × Obj)} {vs : List Value} {ps : List (Value × Value)} (h : PairsAre news vs ps) : ∀ q : List Nat, (∀ i ∈ q, i < ps.length) → PairsAre news (q.map fun i => vs.getD i Value.none) (q.map fun i => ps.getD i (Value.none, Value.none))
  | [], _ => .nil
  | i :: q, hq => by
    obtain ⟨a, n, e, hm⟩ := h.get i (hq i (.head _))
    have e1 : vs.getD i Value.none = .ref a := by simp [List.getD, e]
    have e2 : ps.getD i (Value.none, Value.none) = (ps[i]'(hq i (.head _)) |>.1, ps[i]'(hq i (.head _)) |>.2) := by
      have := hq i (.head _)
      simp [List.getD, this]
    rw [List.map_cons, List.map_cons, e1, e2]
    exact .cons hm (h.pick q fun j hj => hq j (.tail _ hj))
theorem PairsAre.rev {news : List (Addr × Obj)} {vs : List Value} {ps : List (Value × Value)} (h : PairsAre news vs ps) : PairsAre news vs.reverse ps.reverse := by
  induction h with
  | nil => exact .nil
  | cons hm _ ih => rw [List.reverse_cons, List.reverse_cons]; exact ih.append (.cons hm .nil)
theorem PairsAre.tups {h₀ h : Heap} {L : Addr} {news : List (Addr × Obj)} {vs : List Value} {ps : List (Value × Value)} (x : PairsAre news vs ps) (N : News h₀ L h news) : KatTups h vs (ps.map (·.1)) := by
  induction x with
  | nil => exact .nil
  | cons hm _ ih => exact .cons (N _ hm).1 rfl rfl rfl ih

theorem sorted_pairs {n : Nat} {ps : List (Value × Value)} {T : Value} {Q : Value → Shared → Prop} (lt : Nat → Nat → Bool) (F : Fr h₀ L s.heap m) (N : News h₀ L s.heap news) (hl : (l, PySem.W.listOf vs.toArray n) ∈ news) (P : PairsAre news vs ps)
    (h6 : ps.length ≤ 6) (H : Tot ps.length lt) (hT : ∀ p ∈ ps, ∀ h : Heap, Looks (model prog w) h (typeOf p.1) T) (hTT : (T == T) = true) (hTt : (T != Value.type "tuple") = true)
    (cmp : ∀ i j, (hi : i < ps.length) → (hj : j < ps.length) → ∀ (A : Around) (C : Bool → Shared → Prop) (s : Shared), C (lt i j) s → KatLex prog w A true false C [(ps[i].1, ps[j].1), (ps[i].2, ps[j].2)] 0 s)
    (h : ∀ D vs' (q : List Nat) h' c, q.Perm (List.range ps.length) → q.Pairwise (fun i j => lt i j = true) → PairsAre news vs' (q.map fun i => ps.getD i (Value.none, Value.none)) →
      Fr h₀ L h' m → News h₀ L h' ((D, PySem.W.listOf (List.toArray vs') c) :: news) → (∀ p ∈ news, p.1 < D) → Q (.ref D) { s with heap := h' }) :
    wpAny (model prog w) A (call (.builtin "sorted") [.ref l]) Q E s := by
  have hlen := P.length
  have hL : s.heap.IsList l vs.toArray := ⟨_, (N _ hl).1, rfl, n, rfl⟩
  rcases Nat.lt_or_ge vs.length 2 with h2 | h2
  · refine sorted_small F N hL h2 fun D c h' F' N' hD => ?_
    refine h D vs (List.range ps.length) h' c (.refl _) ?_ ?_ F' N' hD
    · have : ps.length = 0 ∨ ps.length = 1 := by omega
      rcases this with e | e <;> rw [e]
      · exact .nil
      · exact List.pairwise_singleton _ _
    · have e : (List.range ps.length).map (fun i => ps.getD i (Value.none, Value.none)) = ps := by
        apply List.ext_getElem
        · simp
        · intro i h1 h2; simp [h2]
      rw [e]; exact P
  · refine kat_sorted F N hL h2 (by omega) fun D e1 h' F' N' hD => ?_
    have N'' : News h₀ L h' news := fun p hp => N' p (.tail _ hp)
    have hne : 0 < (ps.map (·.1)).length := by rw [List.length_map]; omega
    refine kat_kind (T := T) (P.tups N'') hne (fun v hv => ?_) hTT ?_
    · obtain ⟨p, hp, rfl⟩ := List.mem_map.mp hv
      exact hT p hp _
    · rw [hTt]
      obtain ⟨q, he, hp, ho⟩ := sort_perm (by omega) h6 H
      rw [hlen]
      refine wp_evalOk (n := ps.length) (lt := lt) (fun i j hi hj C hC => ?_) _ q _ he ?_
      · obtain ⟨a, na, ea, ma⟩ := P.get i hi
        obtain ⟨b, nb, eb, mb⟩ := P.get j hj
        show wpAny _ _ (keyLt' _ (vs.getD i Value.none) (vs.getD j Value.none)) C _ _
        have e1 : vs.getD i Value.none = .ref a := by simp [List.getD, ea]
        have e2 : vs.getD j Value.none = .ref b := by simp [List.getD, eb]
        rw [e1, e2]
        refine kat_lt (N'' _ ma).1 rfl (N'' _ mb).1 rfl ?_
        exact cmp i j hi hj _ C _ hC
      · refine KasFin.intro F' N' (UpdF.head fun p hp => Nat.ne_of_lt (hD p hp)) fun h'' c F'' N₃ => ?_
        exact h D _ q.toList h'' c hp ho (P.pick q.toList fun i hi => List.mem_range.mp (hp.mem_iff.mp hi)) F'' N₃ hD
end
end Mine
namespace Mine
theorem perm_pick {α : Type} {l : List α} {d : α} {q : List Nat} (h : q.Perm (List.range l.length)) : (q.map fun i => l.getD i d).Perm l := by
  have e : (List.range l.length).map (fun i => l.getD i d) = l := by
    apply List.ext_getElem
    · simp
    · intro i h1 h2; simp [h2]
  have := h.map (fun i => l.getD i d)
  rwa [e] at this

inductive IntPairs : List (Value × Value) → List (Int × Int) → Prop
  | nil : IntPairs [] []
  | cons {i j : Int} {t u : Tok} {ps : List (Value × Value)} {ks : List (Int × Int)} : IntPairs ps ks → IntPairs ((.int i t, .int j u) :: ps) ((i, j) :: ks)
theorem IntPairs.length {ps : List (Value × Value)} {ks : List (Int × Int)} (h : IntPairs ps ks) : ps.length = ks.length := by
  induction h with
  | nil => rfl
  | cons _ ih => rw [List.length_cons, List.length_cons, ih]
theorem IntPairs.append {ps qs : List (Value × Value)} {ks ls : List (Int × Int)} (h : IntPairs ps ks) (k : IntPairs qs ls) : IntPairs (ps ++ qs) (ks ++ ls) := by
  induction h with
  | nil => exact k
  | cons _ ih => exact .cons ih
theorem IntPairs.get {ps : List (Value × Value)} {ks : List (Int × Int)} (h : IntPairs ps ks) : ∀ i, (hi : i < ps.length) → (hi' : i < ks.length) → ∃ t u, ps[i] = (.int ks[i].1 t, .int ks[i].2 u) := by
  induction h with
  | nil => intro i hi; exact absurd hi (Nat.not_lt_zero _)
  | @cons i j t u ps ks _ ih =>
    intro n hn hn'
    cases n with
    | zero => exact ⟨t, u, rfl⟩
    | succ n => exact ih n (Nat.lt_of_succ_lt_succ hn) (Nat.lt_of_succ_lt_succ hn')
theorem IntPairs.pick {ps : List (Value × Value)} {ks : List (Int × Int)} (h : IntPairs ps ks) : ∀ q : List Nat, (∀ i ∈ q, i < ps.length) → IntPairs (q.map fun i => ps.getD i (Value.none, Value.none)) (q.map fun i => ks.getD i (0, 0))
  | [], _ => .nil
  | i :: q, hq => by
    have hi := hq i (.head _)
    have hi' : i < ks.length := by rw [← h.length]; exact hi
    obtain ⟨t, u, e⟩ := h.get i hi hi'
    have e1 : ps.getD i (Value.none, Value.none) = (.int ks[i].1 t, .int ks[i].2 u) := by simp [List.getD, hi, e]
    have e2 : ks.getD i (0, 0) = (ks[i].1, ks[i].2) := by simp [List.getD, hi']
    rw [List.map_cons, List.map_cons, e1, e2]
    exact .cons (h.pick q fun j hj => hq j (.tail _ hj))
abbrev lexlt (a b : Int × Int) : Prop := a.1 < b.1 ∨ (a.1 = b.1 ∧ a.2 < b.2)
theorem lexlt_irr (a : Int × Int) : ¬ lexlt a a := by unfold lexlt; omega
theorem lexlt_tr {a b c : Int × Int} (h : lexlt a b) (k : lexlt b c) : lexlt a c := by unfold lexlt at *; omega
theorem lexlt_tot {a b : Int × Int} (h : a ≠ b) : lexlt a b ∨ lexlt b a := by
  have : ¬ (a.1 = b.1 ∧ a.2 = b.2) := fun ⟨h1, h2⟩ => h (Prod.ext h1 h2)
  unfold lexlt; omega
section
variable {prog : Program} {w : World} {A : Around} {E : Value → Shared → Prop} {s : Shared} {h₀ : Heap} {L a l : Addr} {m : Str → Option Value} {news : List (Addr × Obj)} {vs : List Value}
theorem lex_ints {i j k n : Int} {t u t' u' : Tok} {C : Bool → Shared → Prop} (h : C (decide (lexlt (i, j) (k, n))) s) :
    KatLex prog w A true false C [(.int i t, .int k t'), (.int j u, .int n u')] 0 s := by
  refine kat_cons (wpAny_eqBool_int ?_)
  by_cases hik : i = k
  · subst hik
    rw [beq_self_eq_true]
    refine kat_yes (kat_cons (wpAny_eqBool_int ?_))
    by_cases hjn : j = n
    · subst hjn
      rw [beq_self_eq_true]
      refine kat_yes (kat_nil ?_)
      rwa [decide_eq_false (lexlt_irr _)] at h
    · rw [show (j == n) = false from by simpa using hjn]
      refine kat_no (kat_one _ _ (wpAny_lt_int ?_)); show C (decide (j < n)) s
      have e : decide (j < n) = decide (lexlt (i, j) (i, n)) := by
        apply decide_eq_decide.mpr
        unfold lexlt
        constructor <;> intro q
        · exact .inr ⟨rfl, q⟩
        · rcases q with q | ⟨_, q⟩
          · exact absurd q (Int.lt_irrefl _)
          · exact q
      rw [e]; exact h
  · rw [show (i == k) = false from by simpa using hik]
    refine kat_no (oneLt_int ?_)
    have e : decide (i < k) = decide (lexlt (i, j) (k, n)) := by
      apply decide_eq_decide.mpr
      unfold lexlt
      constructor <;> intro q
      · exact .inl q
      · rcases q with q | ⟨q, _⟩
        · exact q
        · exact absurd q hik
    rw [e]; exact h

theorem sorted_ints2 {n : Nat} {ps : List (Value × Value)} {ks : List (Int × Int)} {Q : Value → Shared → Prop} (F : Fr h₀ L s.heap m) (N : News h₀ L s.heap news) (hl : (l, PySem.W.listOf vs.toArray n) ∈ news) (P : PairsAre news vs ps) (K : IntPairs ps ks)
    (h6 : ks.length ≤ 6) (hnd : ks.Nodup)
    (h : ∀ D vs' ps' ks' h' c, ks'.Perm ks → ks'.Pairwise lexlt → PairsAre news vs' ps' → IntPairs ps' ks' →
      Fr h₀ L h' m → News h₀ L h' ((D, PySem.W.listOf (List.toArray vs') c) :: news) → (∀ p ∈ news, p.1 < D) → Q (.ref D) { s with heap := h' }) :
    wpAny (model prog w) A (call (.builtin "sorted") [.ref l]) Q E s := by
  have hlen := K.length
  have hg : ∀ i, (hi : i < ps.length) → ks.getD i (0, 0) = ks[i]'(by omega) := fun i hi => by
    have : i < ks.length := by omega
    simp [List.getD, this]
  refine sorted_pairs (T := .type "int") (fun i j => decide (lexlt (ks.getD i (0, 0)) (ks.getD j (0, 0)))) F N hl P (by omega) ⟨fun i _ => decide_eq_false (lexlt_irr _), ?_, ?_⟩ ?_ rfl rfl ?_ ?_
  · intro i j k _ _ _ h1 h2
    exact decide_eq_true (lexlt_tr (of_decide_eq_true h1) (of_decide_eq_true h2))
  · intro i j hi hj hij
    rw [hg i hi, hg j hj]
    have : ks[i]'(by omega) ≠ ks[j]'(by omega) := fun e => hij ((List.getElem_inj hnd).mp e)
    rcases lexlt_tot this with h | h
    · exact .inl (decide_eq_true h)
    · exact .inr (decide_eq_true h)
  · intro p hp h
    obtain ⟨i, hi, rfl⟩ := List.getElem_of_mem hp
    obtain ⟨t, u, e⟩ := K.get i hi (by omega)
    rw [e]
    exact Looks.of_pure rfl
  · intro i j hi hj A C s hC
    obtain ⟨t, u, e⟩ := K.get i hi (by omega)
    obtain ⟨t', u', e'⟩ := K.get j hj (by omega)
    rw [e, e']
    refine lex_ints ?_
    rw [hg i hi, hg j hj] at hC
    exact hC
  · intro D vs' q h' c hp ho P' F' N' hD
    have hb : ∀ i ∈ q, i < ps.length := fun i hi => List.mem_range.mp (hp.mem_iff.mp hi)
    refine h D vs' _ (q.map fun i => ks.getD i (0, 0)) h' c (perm_pick (by rw [← hlen]; exact hp)) ?_ P' (K.pick q hb) F' N' hD
    rw [List.pairwise_map]
    exact ho.imp fun h => of_decide_eq_true h

theorem eqBool_self {v : Value} {Q : Bool → Shared → Prop} (h : Q true s) : wpAny (model prog w) A (eqBool v v) Q E s := by
  unfold eqBool
  have e : (v == v) = true := by simp
  rw [if_pos e]
  refine wpAny_holding (wpAny_bind (wpAny_rule ?_))
  exact wpAny_pure h
theorem nodup_len {α : Type} [DecidableEq α] : ∀ {l k : List α}, l.Nodup → (∀ a ∈ l, a ∈ k) → l.length ≤ k.length
  | [], _, _, _ => Nat.zero_le _
  | a :: l, k, hn, hs => by
    have ha := hs a (.head _)
    have hn' := List.nodup_cons.mp hn
    have := nodup_len (l := l) (k := k.erase a) hn'.2 fun b hb => (List.mem_erase_of_ne (fun (e : b = a) => hn'.1 (e ▸ hb))).mpr (hs b (.tail _ hb))
    rw [List.length_erase_of_mem ha] at this
    have hp := List.length_pos_of_mem ha
    rw [List.length_cons]
    omega
def strLt (a b : Str) : Bool := decide (a.cps.toList < b.cps.toList)
theorem strLt_irr : ∀ a ∈ kinds, strLt a a = false := by decide +kernel
theorem strLt_tr : ∀ a ∈ kinds, ∀ b ∈ kinds, ∀ c ∈ kinds, strLt a b = true → strLt b c = true → strLt a c = true := by decide +kernel
theorem strLt_tot : ∀ a ∈ kinds, ∀ b ∈ kinds, a ≠ b → strLt a b = true ∨ strLt b a = true := by decide +kernel
inductive StrPairs : List (Value × Value) → List Str → Prop
  | nil : StrPairs [] []
  | cons {k : Str} {t : Tok} {v : Value} {ps : List (Value × Value)} {ks : List Str} : StrPairs ps ks → StrPairs ((.str k t, v) :: ps) (k :: ks)
theorem StrPairs.length {ps : List (Value × Value)} {ks : List Str} (h : StrPairs ps ks) : ps.length = ks.length := by
  induction h with
  | nil => rfl
  | cons _ ih => rw [List.length_cons, List.length_cons, ih]
theorem StrPairs.get {ps : List (Value × Value)} {ks : List Str} (h : StrPairs ps ks) : ∀ i, (hi : i < ps.length) → (hi' : i < ks.length) → ∃ t, ps[i].1 = .str ks[i] t := by
  induction h with
  | nil => intro i hi; exact absurd hi (Nat.not_lt_zero _)
  | @cons k t v ps ks _ ih =>
    intro n hn hn'
    cases n with
    | zero => exact ⟨t, rfl⟩
    | succ n => exact ih n (Nat.lt_of_succ_lt_succ hn) (Nat.lt_of_succ_lt_succ hn')
theorem sorted_strs2 {n : Nat} {ps : List (Value × Value)} {ks : List Str} {Q : Value → Shared → Prop} (F : Fr h₀ L s.heap m) (N : News h₀ L s.heap news) (hl : (l, PySem.W.listOf vs.toArray n) ∈ news) (P : PairsAre news vs ps) (K : StrPairs ps ks)
    (hnd : ks.Nodup) (hk : ∀ k ∈ ks, k ∈ kinds)
    (h : ∀ D vs' ps' h' c, ps'.Perm ps → PairsAre news vs' ps' → Fr h₀ L h' m → News h₀ L h' ((D, PySem.W.listOf (List.toArray vs') c) :: news) → (∀ p ∈ news, p.1 < D) → Q (.ref D) { s with heap := h' }) :
    wpAny (model prog w) A (call (.builtin "sorted") [.ref l]) Q E s := by
  have hlen := K.length
  have h6 : ks.length ≤ 6 := by
    exact nodup_len hnd hk
  have hg : ∀ i, (hi : i < ps.length) → ks.getD i Str.empty = ks[i]'(by omega) := fun i hi => by
    have : i < ks.length := by omega
    simp [List.getD, this]
  have hmem : ∀ i, (hi : i < ps.length) → ks.getD i Str.empty ∈ kinds := fun i hi => by
    rw [hg i hi]; exact hk _ (List.getElem_mem _)
  refine sorted_pairs (T := .type "str") (fun i j => strLt (ks.getD i Str.empty) (ks.getD j Str.empty)) F N hl P (by omega) ⟨fun i hi => strLt_irr _ (hmem i hi), ?_, ?_⟩ ?_ rfl rfl ?_ ?_
  · intro i j k hi hj hk h1 h2
    exact strLt_tr _ (hmem i hi) _ (hmem j hj) _ (hmem k hk) h1 h2
  · intro i j hi hj hij
    refine strLt_tot _ (hmem i hi) _ (hmem j hj) ?_
    rw [hg i hi, hg j hj]
    exact fun e => hij ((List.getElem_inj hnd).mp e)
  · intro p hp h
    obtain ⟨i, hi, rfl⟩ := List.getElem_of_mem hp
    obtain ⟨t, e⟩ := K.get i hi (by omega)
    rw [e]
    exact Looks.of_pure rfl
  · intro i j hi hj A C s hC
    obtain ⟨t, e⟩ := K.get i hi (by omega)
    obtain ⟨t', e'⟩ := K.get j hj (by omega)
    rw [e, e']
    rw [hg i hi, hg j hj] at hC
    refine kat_cons (wpAny_eqBool_str ?_)
    by_cases hij : i = j
    · subst hij
      have e0 : ps[i].1 = ps[i].1 := rfl
      rw [decide_eq_true rfl]
      refine kat_yes (kat_cons (eqBool_self ?_))
      refine kat_yes (kat_nil ?_)
      rwa [strLt_irr _ (hk _ (List.getElem_mem _))] at hC
    · have : ks[i]'(by omega) ≠ ks[j]'(by omega) := fun e => hij ((List.getElem_inj hnd).mp e)
      rw [decide_eq_false this]
      exact kat_no (oneLt_str hC)
  · intro D vs' q h' c hp ho P' F' N' hD
    exact h D vs' _ h' c (perm_pick hp) P' F' N' hD
end
end Mine
namespace Mine
section
variable {prog : Program} {w : World} {A : Around} {E : Value → Shared → Prop} {s : Shared} {R : Result → Shared → Prop}

theorem comp_loop {elt target iter : PySem.Expr} {ifs : List PySem.Expr} {scope : Scope} {pos : Pos} {it acc : Value} {env : Env} (I : Nat → Shared → Prop)
    (turn : ∀ n s, I n s → wpAny (model prog w) A (pyNext it) (fun r s₁ => match r with
      | none => R (.ok .next) s₁
      | some v => wpAny (model prog w) A (letOwnedTupleGo target it v) (fun _ s₀ => wpAny (model prog w) A (assign target env v) (fun _ s₂ =>
          wpAny (model prog w) A (forIn ifs true fun c r => if r = true then do let ok ← isTrue c env (eval c env); pure (ForInStep.yield ok) else pure (ForInStep.yield r)) (fun ok s₃ => if ok = true then wpAny (model prog w) A (eval elt env) (fun x s₄ =>
            wpAny (model prog w) A (call (.builtin "list.append") [acc, x]) (fun _ s₅ => ∃ m, m < n ∧ I m s₅) (fun _ _ => False) s₄) (fun _ _ => False) s₃
            else ∃ m, m < n ∧ I m s₃) (fun _ _ => False) s₂)
          (fun _ _ => False) s₀) (fun _ _ => False) s₁) (fun _ _ => False) s)
    (n : Nat) (h : I n s) : codeAny (model prog w) A (.compLoop (.ListComp elt [⟨target, iter, ifs, 0⟩] scope pos) 0 it acc env) R s := by
  refine codeAny_loop rfl I (fun n s hI => ?_) n h
  show wpAny _ A ((compTurn (.ListComp elt [⟨target, iter, ifs, 0⟩] scope pos) 0 it acc env).onRaise (fun x => do noteFrame x env; theTreesLotGoes x)) _ _ s
  refine wpAny_noted ?_
  rw [compTurn_list]
  refine wpAny_bind (wpAny_standAt (wpAny_bind (wpAny_mono (turn n s hI) (fun r s₁ h₁ => ?_) fun _ _ h' => h'.elim)))
  cases r with
  | none => exact wpAny_pure h₁
  | some v =>
    refine wpAny_bind (wpAny_mono h₁ (fun _ s₀ h₀' => ?_) fun _ _ h' => h'.elim)
    refine wpAny_bind (wpAny_mono h₀' (fun _ s₂ h₂ => ?_) fun _ _ h' => h'.elim)
    refine wpAny_bind (wpAny_mono h₂ (fun okb s₃ h₃ => ?_) fun _ _ h' => h'.elim)
    cases okb with
    | false => exact wpAny_pure ⟨rfl, h₃⟩
    | true => exact wpAny_bind (wpAny_bind (wpAny_mono h₃ (fun x s₄ h₄ => wpAny_bind (wpAny_mono h₄ (fun _ s₅ h₅ => wpAny_pure (wpAny_pure ⟨rfl, h₅⟩)) fun _ _ h' => h'.elim)) fun _ _ h' => h'.elim))
end

/-- the end of a comprehension's turn -/
def CEnd (h₀ : Heap) (L : Addr) (m : Str → Option Value) (I : Addr) (oI : Obj) (C : Addr) (oC : Obj) (D : Addr) (oD : Obj) (s : Shared) (J : List (Addr × Obj) → Prop) (s₂ : Shared) : Prop :=
  ∃ h' tk all nx, s₂ = { s with heap := h', toks := tk } ∧ Fr h₀ L h' m ∧ News h₀ L h' all ∧ (I, oI) ∈ all ∧ (C, oC) ∈ all ∧ (D, oD) ∈ all ∧ (∀ p ∈ nx, p ∈ all) ∧ (∀ p ∈ nx, p.1 ≠ I ∧ p.1 ≠ C ∧ p.1 ≠ D) ∧ J nx

section
variable {prog : Program} {w : World} {A : Around} {E : Value → Shared → Prop} {s : Shared} {h₀ : Heap} {L : Addr} {m : Str → Option Value} {env : Env}
theorem comp_block {elt target iter : PySem.Expr} {ifs : List PySem.Expr} {scope : Scope} {cl : List (Str × Addr)} {pos : Pos} {s₂ : Shared} {I : Addr} {fp : List Addr} {n : Nat} {P : Nat → Value → Prop} {St : Nat → Heap → Prop} {news : List (Addr × Obj)}
    (J : Nat → List Value → List (Addr × Obj) → Prop) (Bd : Nat → Value → (Str → Option Value) → List (Addr × Obj) → Prop) {RR : Value → Addr → Result → Shared → Prop}
    (W : Walks prog w A I fp [I] n P St) (hsz : n ≤ sizeLine) (hIo : ∀ i h, St i h → ∃ o, h.get? I = some o)
    (hSt : ∀ i h h' o nw ys, St i h → h.get? I = some o → h'.get? I = some o → (∀ b o, h₀.get? b = some o → h'.get? b = some o) → News h₀ L h' nw → J i ys nw → St i h')
    (hcell : ∀ y ∈ scope.names, y.2 ≠ .cell) (hkind : scope.kind = .function) (hst : St 0 s₂.heap) (hfp : ∀ b ∈ fp, b < s₂.heap.objs.size)
    (F : Fr h₀ L s₂.heap m) (N : News h₀ L s₂.heap news) (hIL : L ≠ I) (hI₀ : h₀.get? I = none) (off : ∀ p ∈ news, p.1 ≠ I) (hJ : J 0 [] news)
    (bind : ∀ i v nx ys h tk C m' (Qb : Unit → Shared → Prop), P i v → J i ys nx → News h₀ L h nx → (∀ b o, h₀.get? b = some o → h.get? b = some o) → St (i + 1) h → h.Ns C m' → h.objs.size > C →
      (∀ h' tk' m₂, h'.Ns C m₂ → Bd i v m₂ nx → (∀ b o, b ≠ C → h.get? b = some o → h'.get? b = some o) → Qb () { s₂ with heap := h', toks := tk' }) →
      wpAny (model prog w) A (letOwnedTupleGo target (.ref I) v) (fun _ s => wpAny (model prog w) A (assign target (compEnvC scope cl C env) v) Qb (fun _ _ => False) s) (fun _ _ => False) { s₂ with heap := h, toks := tk })
    (step : ∀ i v ys nx oI oC m₂ C D h tk, i < n → P i v → J i ys nx → Bd i v m₂ nx → NsObj oC m₂ → Fr h₀ L h m → News h₀ L h ((I, oI) :: (C, oC) :: (D, lst ys) :: nx) → (∀ p ∈ nx, p.1 ≠ I ∧ p.1 ≠ C ∧ p.1 ≠ D) → ((@Ne Nat I C) ∧ (@Ne Nat I D) ∧ (@Ne Nat C D)) →
      wpAny (model prog w) A (forIn ifs true fun c r => if r = true then do let ok ← isTrue c (compEnvC scope cl C env) (eval c (compEnvC scope cl C env)); pure (ForInStep.yield ok) else pure (ForInStep.yield r))
        (fun ok s' => if ok = true then wpAny (model prog w) A (eval elt (compEnvC scope cl C env)) (fun y s'' => CEnd h₀ L m I oI C oC D (lst ys) s₂ (J (i + 1) (ys ++ [y])) s'') (fun _ _ => False) s' else CEnd h₀ L m I oI C oC D (lst ys) s₂ (J (i + 1) ys) s') (fun _ _ => False) { s₂ with heap := h, toks := tk })
    (hRR : ∀ D C h tk m' ys nx, Fr h₀ L h m → News h₀ L h ((D, lst ys) :: nx) → (∀ p ∈ nx, p.1 ≠ D) → h.Ns C m' → h₀.get? C = none → h₀.get? D = none → C ≠ L → D ≠ L → C ≠ D → (∀ p ∈ nx, p.1 ≠ C) → J n ys nx → RR (.ref D) C (.ok .next) { s₂ with heap := h, toks := tk }) :
    wpAny (model prog w) A (newList []) (fun acc s₃ => wpAny (model prog w) A (newFunctionEnv scope env.globals cl [] env.qual none .none (some env)) (fun cenv s₄ =>
      codeAny (model prog w) A (.compStart (.ListComp elt [⟨target, iter, ifs, 0⟩] scope pos) 0 (.ref I) acc { cenv with scope := relabel scope env }) (RR acc cenv.locals) s₄) E s₃) E s₂ := by
  refine wpAny_newObj_type (wpAny_newFunctionEnv hcell (by intro y hy; simp at hy) (fun h₁ hns₁ hsb₁ => ?_) hkind)
  dsimp only at hns₁ hsb₁ ⊢
  generalize hH2 : s₂.heap.push { cls := .type "list", dict := none, data := .seq ([] : List Value).toArray } = H2 at hns₁ hsb₁ ⊢
  have hC : H2.objs.size = s₂.heap.objs.size + 1 := by rw [← hH2, Heap.size_push]
  have hDC : s₂.heap.objs.size ≠ H2.objs.size := by rw [hC]; exact Nat.ne_of_lt (Nat.lt_succ_self _)
  have below : ∀ b, b < s₂.heap.objs.size → b ≠ H2.objs.size ∧ b ≠ s₂.heap.objs.size := fun b hb => ⟨by rw [hC]; exact Nat.ne_of_lt (Nat.lt_succ_of_lt hb), Nat.ne_of_lt hb⟩
  have hDf : s₂.heap.objs.size ∉ fp := fun hm => Nat.lt_irrefl _ (hfp _ hm)
  have hCf : H2.objs.size ∉ fp := fun hm => by have := hfp _ hm; rw [hC] at this; exact Nat.lt_irrefl _ (Nat.lt_of_succ_lt this)
  have hIf : I ∈ fp := W.sub I (List.mem_singleton.mpr rfl)
  have hIlt : I < s₂.heap.objs.size := hfp I hIf
  have old : ∀ b o, s₂.heap.get? b = some o → h₁.get? b = some o := fun b o e => hsb₁.extBut b o (below b (Heap.lt_size e)).1 (Heap.get?_push_of_some _ (hH2 ▸ Heap.get?_push_of_some _ e))
  have hacc : h₁.get? s₂.heap.objs.size = some (lst []) := hsb₁.extBut _ _ hDC (Heap.get?_push_of_some _ (hH2 ▸ Heap.get?_push_size _ rfl))
  have hst₁ : St 0 h₁ := W.frame _ _ _ hst fun b _ o e => old b o e
  have fresh : ∀ a, s₂.heap.objs.size ≤ a → s₂.heap.get? a = none := fun a ha => by
    cases e : s₂.heap.get? a with
    | none => rfl
    | some o' => exact absurd (Heap.lt_size e) (Nat.not_lt.mpr ha)
  have fresh₀ : ∀ a, s₂.heap.objs.size ≤ a → h₀.get? a = none := fun a ha => by
    cases e : h₀.get? a with
    | none => rfl
    | some o' => have := F.keep a o' e; rw [fresh a ha] at this; cases this
  have hD₀ : h₀.get? s₂.heap.objs.size = none := fresh₀ _ (Nat.le_refl _)
  have hC₀ : h₀.get? H2.objs.size = none := fresh₀ _ (by rw [hC]; exact Nat.le_succ _)
  have hLlt : L < s₂.heap.objs.size := F.ns.lt
  have hDL : s₂.heap.objs.size ≠ L := Ne.symm (below L hLlt).2
  have hCL : H2.objs.size ≠ L := Ne.symm (below L hLlt).1
  have hCI : I ≠ H2.objs.size := (below I hIlt).1
  have hDI : I ≠ s₂.heap.objs.size := (below I hIlt).2
  have off₀ : ∀ p ∈ news, p.1 ≠ I ∧ p.1 ≠ H2.objs.size ∧ p.1 ≠ s₂.heap.objs.size := fun p hp => ⟨off p hp, (below _ (Heap.lt_size (N p hp).1)).1, (below _ (Heap.lt_size (N p hp).1)).2⟩
  have loop : ∀ s₃ : Shared, s₃ = { s₂ with heap := h₁, toks := s₂.toks + ([] : List (Str × Value)).length } →
      codeAny (model prog w) A (.compLoop (.ListComp elt [⟨target, iter, ifs, 0⟩] scope pos) 0 (.ref I) (.ref s₂.heap.objs.size) (compEnvC scope cl H2.objs.size env))
        (RR (.ref s₂.heap.objs.size) H2.objs.size) s₃ := by
    rintro s₃ rfl
    refine comp_loop
      (fun k s' => ∃ h' tk i ys m' nx, s' = { s₂ with heap := h', toks := tk } ∧ i ≤ n ∧ k = n + 1 - i ∧ ys.length ≤ i ∧ St i h' ∧ Fr h₀ L h' m ∧ h'.Ns H2.objs.size m' ∧ News h₀ L h' ((s₂.heap.objs.size, lst ys) :: nx) ∧
        (∀ p ∈ nx, p.1 ≠ I ∧ p.1 ≠ H2.objs.size ∧ p.1 ≠ s₂.heap.objs.size) ∧ J i ys nx) ?_ (n + 1)
      ⟨h₁, _, 0, [], _, news, rfl, Nat.zero_le _, rfl, Nat.le_refl _, hst₁, F.keeps old, hns₁, fun p hp => ?_, off₀, hJ⟩
    · rintro k s' ⟨h', tk, i, ys, m', nx, rfl, hi, rfl, hyl, hst', F', hn', N', off', hJ'⟩
      by_cases hlt : i < n
      · refine W.item i _ _ _ hlt hst' fun v h₂ tk₂ hPv hst₂ hk₂ => ?_
        have F₂ : Fr h₀ L h₂ m := fr_but F' hk₂ hIL hI₀
        have N₂ : News h₀ L h₂ ((s₂.heap.objs.size, lst ys) :: nx) := news_but N' hk₂ fun p hp => by
          rcases List.mem_cons.mp hp with rfl | hp
          · exact Ne.symm hDI
          · exact (off' p hp).1
        have hn₂ : h₂.Ns H2.objs.size m' := hn'.at' fun o e => hk₂ _ o (by simpa using Ne.symm hCI) e
        refine bind i v nx ys h₂ tk₂ H2.objs.size m' _ hPv hJ' (fun p hp => N₂ p (.tail _ hp)) F₂.keep hst₂ hn₂ hn₂.lt fun h₃ tk₃ m₂ hn₃ hBd hk₃ => ?_
        have hst₃ : St (i + 1) h₃ := W.frame _ _ _ hst₂ fun b hb o e => hk₃ b o (fun q => hCf (by have q' : b = H2.objs.size := q; rw [← q']; exact hb)) e
        obtain ⟨oI, heI⟩ := hIo _ _ hst₃
        obtain ⟨oC, heC, hoC⟩ := ns_obj hn₃
        have F₃ : Fr h₀ L h₃ m := ⟨F₂.ns.at' fun o e => hk₃ L o (Ne.symm hCL) e, fun b o e => hk₃ b o (fun q => by rw [q, hC₀] at e; cases e) (F₂.keep b o e), F₂.above⟩
        have N₃ : News h₀ L h₃ ((I, oI) :: (H2.objs.size, oC) :: (s₂.heap.objs.size, lst ys) :: nx) := fun p hp => by
          rcases List.mem_cons.mp hp with rfl | hp
          · exact ⟨heI, Ne.symm hIL, hI₀⟩
          · rcases List.mem_cons.mp hp with rfl | hp
            · exact ⟨heC, hCL, hC₀⟩
            · have z := N₂ p hp
              refine ⟨hk₃ _ _ ?_ z.1, z.2⟩
              rcases List.mem_cons.mp hp with rfl | hp
              · exact hDC
              · exact (off' p hp).2.1
        refine wpAny_mono (step i v ys nx oI oC m₂ H2.objs.size s₂.heap.objs.size h₃ tk₃ hlt hPv hJ' hBd hoC F₃ N₃ off' ⟨hCI, hDI, Ne.symm hDC⟩) (fun ok s₄ h₄ => ?_) fun _ _ e => e
        cases ok with
        | true =>
          simp only [if_true] at h₄ ⊢
          refine wpAny_mono h₄ (fun y s₅ h₅ => ?_) fun _ _ e => e
          obtain ⟨h₄, tk₄, all, nx₄, rfl, F₄, N₄, mI, mC, mD, hsub, off₄, hJ₄⟩ := h₅
          have zI := (N₄ _ mI).1
          have zC := (N₄ _ mC).1
          have zD := (N₄ _ mD).1
          have N₄' : News h₀ L h₄ nx₄ := fun p hp => N₄ p (hsub p hp)
          have hst₄ : St (i + 1) h₄ := hSt _ _ _ _ _ _ hst₃ heI zI F₄.keep N₄' hJ₄
          refine append_at (hsz := by show ys.toArray.size ≤ sizeLine; rw [List.size_toArray]; exact Nat.le_trans (Nat.le_trans hyl hi) hsz) zD fun h₅ hs₅ hD₅ => ?_
          refine ⟨n + 1 - (i + 1), by omega, h₅, tk₄, i + 1, ys ++ [y], _, nx₄, rfl, hlt, rfl, by rw [List.length_append, List.length_singleton]; exact Nat.succ_le_succ hyl, W.frame _ _ _ hst₄ fun b hb o e => hs₅.extBut b o (fun q => hDf (q ▸ hb)) e, F₄.change hs₅ hDL hD₀,
            (hoC.ns zC).sameBut hs₅ (Ne.symm hDC), fun p hp => ?_, off₄, hJ₄⟩
          rcases List.mem_cons.mp hp with rfl | hp
          · exact ⟨hD₅.trans (congrArg some (lst_snoc ys y)), hDL, hD₀⟩
          · exact ⟨hs₅.extBut _ _ (off₄ p hp).2.2 (N₄' p hp).1, (N₄' p hp).2⟩
        | false =>
          simp only [Bool.false_eq_true, if_false] at h₄ ⊢
          obtain ⟨h₅, tk₄, all, nx₄, rfl, F₄, N₄, mI, mC, mD, hsub, off₄, hJ₄⟩ := h₄
          have zI := (N₄ _ mI).1
          have zC := (N₄ _ mC).1
          have N₄' : News h₀ L h₅ nx₄ := fun p hp => N₄ p (hsub p hp)
          have hst₄ : St (i + 1) h₅ := hSt _ _ _ _ _ _ hst₃ heI zI F₄.keep N₄' hJ₄
          refine ⟨n + 1 - (i + 1), by omega, h₅, tk₄, i + 1, ys, _, nx₄, rfl, hlt, rfl, Nat.le_succ_of_le hyl, hst₄, F₄, hoC.ns zC, fun p hp => ?_, off₄, hJ₄⟩
          rcases List.mem_cons.mp hp with rfl | hp
          · exact N₄ _ mD
          · exact N₄' p hp
      · obtain rfl : i = n := Nat.le_antisymm hi (Nat.not_lt.mp hlt)
        refine W.done _ _ _ hst' fun h₂ tk₂ hk₂ => ?_
        exact hRR _ _ h₂ tk₂ _ ys nx (fr_but F' hk₂ hIL hI₀) (news_but N' hk₂ fun p hp => by
          rcases List.mem_cons.mp hp with rfl | hp
          · exact Ne.symm hDI
          · exact (off' p hp).1) (fun p hp => (off' p hp).2.2) (hn'.at' fun o e => hk₂ _ o (by simpa using Ne.symm hCI) e) hC₀ hD₀ hCL hDL (Ne.symm hDC) (fun p hp => (off' p hp).2.1) hJ'
    · rcases List.mem_cons.mp hp with rfl | hp
      · exact ⟨hacc, hDL, hD₀⟩
      · exact ⟨old _ _ (N p hp).1, (N p hp).2⟩
  exact codeAny_compStart_list (loop _ rfl) (W.self 0 _ _ _ hst₁ (loop _ rfl))

theorem bind_name {scope : Scope} {cl : List (Str × Addr)} {x : Str} {px : Pos} {it v : Value} {C : Addr} {m' : Str → Option Value} {Qb : Unit → Shared → Prop} (hkind : scope.kind = .function) (hx : scope.names.lookup x = some .local) (hn : s.heap.Ns C m')
    (k : ∀ h', h'.Ns C (fun y => if y = x then some v else m' y) → Heap.SameBut C s.heap h' → Qb () { s with heap := h', toks := s.toks + 1 }) :
    wpAny (model prog w) A (letOwnedTupleGo (.Name x px) it v) (fun _ s => wpAny (model prog w) A (assign (.Name x px) (compEnvC scope cl C env) v) Qb (fun _ _ => False) s) (fun _ _ => False) s := by
  show wpAny _ _ (pure ()) _ _ _
  exact wpAny_pure (wpAny_assign_Name (wpAny_storeName_local (lookup_relabel_local hx) hn k (by simp [compEnvC, relabel, hkind])))

theorem bind_pair {tup : Bool} {scope : Scope} {cl : List (Str × Addr)} {x y : Str} {px py tp : Pos} {tk₀} {I ax t : Addr} {i : Nat} {its : Array Value} {v₁ v₂ : Value} {C : Addr} {m' : Str → Option Value} {Qb : Unit → Shared → Prop} (hh : A.handled = none) (hkind : scope.kind = .function)
    (hx : scope.names.lookup x = some .local) (hy : scope.names.lookup y = some .local) (hxy : x ≠ y) (hn : s.heap.Ns C m') (hI : IterAt tup s.heap I ax i its) (ht : IsTup s.heap t #[v₁, v₂])
    (k : ∀ h' tk' m₂, h'.Ns C m₂ → m₂ x = some v₁ → m₂ y = some v₂ → (∀ b o, b ≠ C → s.heap.get? b = some o → h'.get? b = some o) → Qb () { s with heap := h', toks := tk' }) :
    wpAny (model prog w) A (letOwnedTupleGo (.Tuple [.Name x px, .Name y py] tk₀ tp) (.ref I) (.ref t)) (fun _ s => wpAny (model prog w) A (assign (.Tuple [.Name x px, .Name y py] tk₀ tp) (compEnvC scope cl C env) (.ref t)) Qb (fun _ _ => False) s) (fun _ _ => False) s := by
  refine hI.letGo ?_
  refine assign_Tuple_tuple hh ht rfl rfl fun h₅ he => ?_
  have he' : ∀ b o, s.heap.get? b = some o → h₅.get? b = some o := fun b o e => he b o (Nat.ne_of_lt (Heap.lt_size e)) e
  refine assignInOrder_cons (wpAny_assign_Name (wpAny_storeName_local (lookup_relabel_local hx) (hn.at' fun o e => he' _ o e) (fun h₆ hn₆ hs₆ => ?_) (by simp [compEnvC, relabel, hkind])))
  refine assignInOrder_cons (wpAny_assign_Name (wpAny_storeName_local (lookup_relabel_local hy) hn₆ (fun h₇ hn₇ hs₇ => ?_) (by simp [compEnvC, relabel, hkind])))
  refine assignInOrder_nil ?_
  exact k h₇ _ _ hn₇ (by simp [hxy]) (by simp) fun b o hb e => hs₇.extBut b o hb (hs₆.extBut b o hb (he' b o e))

theorem comp_expr {elt target iter : PySem.Expr} {ifs : List PySem.Expr} {scope : Scope} {cl : List (Str × Addr)} {pos : Pos} {Q : Value → Shared → Prop}
    (hclos : closureFor scope env = pure cl) (hkind : scope.kind = .function) (hnames : ∀ y ∈ scope.names, y.2 = .local → scope.names.lookup y.1 = some .local)
    (h : wpAny (model prog w) A (eval iter env) (fun xv s₁ => wpAny (model prog w) A (pyIter xv) (fun it s₂ => wpAny (model prog w) A (newList []) (fun acc s₃ =>
      wpAny (model prog w) A (newFunctionEnv scope env.globals cl [] env.qual none .none (some env)) (fun cenv s₄ =>
        codeAny (model prog w) A (.compStart (.ListComp elt [⟨target, iter, ifs, 0⟩] scope pos) 0 it acc { cenv with scope := relabel scope env }) (compPost (model prog w) A E none Q acc cenv.locals) s₄) E s₃) E s₂) E s₁) E s)
    (hs : ∀ x, foldedSetIterable iter env x = pure x := by intro _; rfl) :
    wpAny (model prog w) A (eval (.ListComp elt [⟨target, iter, ifs, 0⟩] scope pos) env) Q E s := by
  rw [eval_ListComp]
  exact wpAny_comprehension_free (use := none) rfl hs hclos hkind hnames h

theorem comp_assign {elt target iter : PySem.Expr} {ifs : List PySem.Expr} {scope : Scope} {cl : List (Str × Addr)} {pos spos : Pos} {y : Str} {py : Pos} {Q : Flow → Shared → Prop}
    (hsw : swapsWith (.ListComp elt [⟨target, iter, ifs, 0⟩] scope pos) (some (.Name y py)) spos.line env = pure true)
    (hclos : closureFor scope env = pure cl) (hkind : scope.kind = .function) (hnames : ∀ y ∈ scope.names, y.2 = .local → scope.names.lookup y.1 = some .local)
    (h : wpAny (model prog w) A (eval iter env) (fun xv s₁ => wpAny (model prog w) A (pyIter xv) (fun it s₂ => wpAny (model prog w) A (newList []) (fun acc s₃ =>
      wpAny (model prog w) A (newFunctionEnv scope env.globals cl [] env.qual none .none (some env)) (fun cenv s₄ =>
        codeAny (model prog w) A (.compStart (.ListComp elt [⟨target, iter, ifs, 0⟩] scope pos) 0 it acc { cenv with scope := relabel scope env }) (compPost (model prog w) A E (some (assign (.Name y py) env)) (fun _ s' => Q .next s') acc cenv.locals) s₄) E s₃) E s₂) E s₁) E s)
    (hs : ∀ x, foldedSetIterable iter env x = pure x := by intro _; rfl) :
    wpAny (model prog w) A (exec (.Assign [.Name y py] (.ListComp elt [⟨target, iter, ifs, 0⟩] scope pos) spos) env) Q E s := by
  rw [exec_Assign_Name_used _ _ _ _ hsw]
  refine wpAny_bind (wpAny_standAt (wpAny_bind ?_))
  show wpAny _ A (do let _ ← comprehension (.ListComp elt [⟨target, iter, ifs, 0⟩] scope pos) scope env _ (newList []) false (eval iter env) (some (assign (.Name y py) env))) _ _ s
  exact wpAny_bind (wpAny_mono (wpAny_comprehension_free (use := some (assign (.Name y py) env)) (Q := fun _ s' => Q .next s') rfl hs hclos hkind hnames h) (fun _ s' hq => wpAny_pure (wpAny_pure hq)) fun _ _ e => e)

/-- what a finished comprehension hands on -/
abbrev CRR (s : Shared) (h₀ : Heap) (L : Addr) (m : Str → Option Value) (J : List Value → List (Addr × Obj) → Prop) (RR : Value → Addr → Result → Shared → Prop) : Prop :=
  ∀ D C h tk m' ys nx, Fr h₀ L h m → News h₀ L h ((D, lst ys) :: nx) → (∀ p ∈ nx, p.1 ≠ D) → h.Ns C m' → h₀.get? C = none → h₀.get? D = none → C ≠ L → D ≠ L → C ≠ D → (∀ p ∈ nx, p.1 ≠ C) → J ys nx → RR (.ref D) C (.ok .next) { s with heap := h, toks := tk }
theorem post_none {J : List Value → List (Addr × Obj) → Prop} {Q : Value → Shared → Prop}
    (fin : ∀ D ys nx h tk, Fr h₀ L h m → News h₀ L h ((D, lst ys) :: nx) → (∀ p ∈ nx, p.1 ≠ D) → J ys nx → Q (.ref D) { s with heap := h, toks := tk }) :
    CRR s h₀ L m J (compPost (model prog w) A E none Q) := by
  intro D C h tk m' ys nx F' N' o1 hn hC₀ hD₀ hCL hDL hCD offC hJ
  refine ⟨m', hn, fun h'' hs'' => fin D ys nx h'' tk (F'.change hs'' hCL hC₀) (fun p hp => ?_) o1 hJ⟩
  refine ⟨hs''.extBut _ _ ?_ (N' p hp).1, (N' p hp).2⟩
  rcases List.mem_cons.mp hp with rfl | hp
  · exact Ne.symm hCD
  · exact offC p hp
theorem post_assign {J : List Value → List (Addr × Obj) → Prop} {y : Str} {py : Pos} {Q : Flow → Shared → Prop} (hLe : env.locals = L) (hy : env.kindOf y = some .local) (hp : (env.scope.kind == .class || (env.scope.kind == .module && env.locals != env.globals)) = false)
    (fin : ∀ D ys nx h tk, Fr h₀ L h (fun z => if z = y then some (.ref D) else m z) → News h₀ L h ((D, lst ys) :: nx) → (∀ p ∈ nx, p.1 ≠ D) → J ys nx → Q .next { s with heap := h, toks := tk }) :
    CRR s h₀ L m J (compPost (model prog w) A E (some (assign (.Name y py) env)) (fun _ s' => Q .next s')) := by
  subst hLe
  intro D C h tk m' ys nx F' N' o1 hn hC₀ hD₀ hCL hDL hCD offC hJ
  show wpAny _ A (assign (.Name y py) env (.ref D)) _ _ _
  refine wpAny_assign_Name (wpAny_storeName_local hy F'.ns (fun h₂ hn₂ hs₂ => ?_) hp)
  have hL₀ : h₀.get? env.locals = none := Heap.get?_none_of_le F'.above
  have F₂ : Fr h₀ env.locals h₂ (fun z => if z = y then some (.ref D) else m z) := ⟨hn₂, fun b o e => hs₂.extBut b o (fun q => by rw [q, hL₀] at e; cases e) (F'.keep b o e), F'.above⟩
  refine ⟨m', hn.sameBut hs₂ hCL, fun h'' hs'' => fin D ys nx h'' _ (F₂.change hs'' hCL hC₀) (fun p hp => ?_) o1 hJ⟩
  have z : h₂.get? p.1 = some p.2 := hs₂.extBut _ _ (N' p hp).2.1 (N' p hp).1
  refine ⟨hs''.extBut _ _ ?_ z, (N' p hp).2⟩
  rcases List.mem_cons.mp hp with rfl | hp
  · exact Ne.symm hCD
  · exact offC p hp

/-- a turn's obligation -/
abbrev CStep (prog : Program) (w : World) (A : Around) (s : Shared) (h₀ : Heap) (L : Addr) (m : Str → Option Value) (env : Env) (scope : Scope) (cl : List (Str × Addr)) (ifs : List PySem.Expr) (elt : PySem.Expr) (Bd : (Str → Option Value) → Prop) (J J₁ : List Value → List (Addr × Obj) → Prop) (JF : List Value → Prop) : Prop :=
  ∀ ys nx I oI oC m₂ C D h tk, J ys nx → Bd m₂ → NsObj oC m₂ → Fr h₀ L h m → News h₀ L h ((I, oI) :: (C, oC) :: (D, lst ys) :: nx) → (∀ p ∈ nx, p.1 ≠ I ∧ p.1 ≠ C ∧ p.1 ≠ D) → ((@Ne Nat I C) ∧ (@Ne Nat I D) ∧ (@Ne Nat C D)) → JF ys →
      wpAny (model prog w) A (forIn ifs true fun c r => if r = true then do let ok ← isTrue c (compEnvC scope cl C env) (eval c (compEnvC scope cl C env)); pure (ForInStep.yield ok) else pure (ForInStep.yield r))
        (fun ok s' => if ok = true then wpAny (model prog w) A (eval elt (compEnvC scope cl C env)) (fun y s'' => CEnd h₀ L m I oI C oC D (lst ys) s (J₁ (ys ++ [y])) s'') (fun _ _ => False) s' else CEnd h₀ L m I oI C oC D (lst ys) s (J₁ ys) s') (fun _ _ => False) { s with heap := h, toks := tk }

theorem seq_name {tup : Bool} {elt iter : PySem.Expr} {ifs : List PySem.Expr} {x : Str} {px : Pos} {scope : Scope} {cl : List (Str × Addr)} {pos : Pos} {ax : Addr} {its : Array Value} {news : List (Addr × Obj)}
    (J : Nat → List Value → List (Addr × Obj) → Prop) (RR : Value → Addr → Result → Shared → Prop)
    (hh : A.handled = none) (hcell : ∀ y ∈ scope.names, y.2 ≠ .cell) (hkind : scope.kind = .function) (hx : scope.names.lookup x = some .local) (hsz : its.size ≤ sizeLine)
    (S : Src tup h₀ ax its news) (F : Fr h₀ L s.heap m) (N : News h₀ L s.heap news) (hJ : J 0 [] news) (hS : ∀ i ys nx, J i ys nx → Src tup h₀ ax its nx)
    (step : ∀ i v, its[i]? = some v → CStep prog w A s h₀ L m env scope cl ifs elt (fun m₂ => m₂ x = some v) (J i) (J (i + 1)) (fun _ => True))
    (hRR : CRR s h₀ L m (J its.size) RR) :
    wpAny (model prog w) A (pyIter (.ref ax)) (fun it s₂ => wpAny (model prog w) A (newList []) (fun acc s₃ =>
      wpAny (model prog w) A (newFunctionEnv scope env.globals cl [] env.qual none .none (some env)) (fun cenv s₄ =>
        codeAny (model prog w) A (.compStart (.ListComp elt [⟨.Name x px, iter, ifs, 0⟩] scope pos) 0 it acc { cenv with scope := relabel scope env }) (RR acc cenv.locals) s₄) E s₃) E s₂) E s := by
  obtain ⟨oa, ea, ca, da⟩ := S.get F.keep N
  have hlt : ax < s.heap.objs.size := Heap.lt_size ea
  have hp : (s.heap.push (iterObj tup ax)).get? s.heap.objs.size = some (iterObj tup ax) := Heap.get?_push_size _ rfl
  refine iter_start tup ea ca da ?_
  refine comp_block (h₀ := h₀) (m := m) (news := news) J (fun _ v m₂ _ => m₂ x = some v) (iter_walks tup hh s.heap.objs.size ax (Nat.ne_of_lt hlt) its) hsz (fun _ _ y => y.obj) ?_ hcell hkind ?_ (fun b hb => ?_) (F.push _) (fun p hp => ⟨Heap.get?_push_of_some _ (N p hp).1, (N p hp).2⟩)
    (Nat.ne_of_lt F.ns.lt) (next_is_new F) (fun p hp => Nat.ne_of_lt (Heap.lt_size (N p hp).1)) hJ ?_ ?_ ?_
  · intro i h h' o nw ys y e e' k N' j
    exact y.keep e e' k N' (hS _ _ _ j)
  · cases tup with
    | true => exact ⟨⟨_, hp, rfl, rfl⟩, oa, Heap.get?_push_of_some _ ea, ca, da⟩
    | false => exact ⟨⟨_, hp, rfl, rfl⟩, oa, Heap.get?_push_of_some _ ea, ca, da⟩
  · show b < (s.heap.push _).objs.size
    rw [Heap.size_push]
    rcases List.mem_cons.mp hb with rfl | hb
    · exact Nat.lt_succ_self _
    · rw [List.mem_singleton.mp hb]; exact Nat.lt_succ_of_lt hlt
  · intro i v nx ys h tk C m' Qb _ _ _ _ _ hn _ k
    exact bind_name (s := { s with heap := h, toks := tk }) hkind hx hn fun h' hn' hs' => k h' _ _ hn' (by simp) fun b o hb e => hs'.extBut b o hb e
  · intro i v ys nx oI oC m₂ C D h tk _ hv hJ' hB hC F' N' off ne
    exact step i v hv ys nx _ oI oC m₂ C D h tk hJ' hB hC F' N' off ne trivial
  · exact hRR

theorem seq_pair {tup : Bool} {elt iter : PySem.Expr} {ifs : List PySem.Expr} {x y : Str} {px py tp : Pos} {tk₀} {scope : Scope} {cl : List (Str × Addr)} {pos : Pos} {ax : Addr} {its : Array Value} {news : List (Addr × Obj)}
    (J : Nat → List Value → List (Addr × Obj) → Prop) (Pi : Nat → Value → Value → Prop) (RR : Value → Addr → Result → Shared → Prop)
    (hh : A.handled = none) (hcell : ∀ y ∈ scope.names, y.2 ≠ .cell) (hkind : scope.kind = .function) (hx : scope.names.lookup x = some .local) (hy : scope.names.lookup y = some .local) (hxy : x ≠ y) (hsz : its.size ≤ sizeLine)
    (S : Src tup h₀ ax its news) (F : Fr h₀ L s.heap m) (N : News h₀ L s.heap news) (hJ : J 0 [] news) (hS : ∀ i ys nx, J i ys nx → Src tup h₀ ax its nx)
    (hitem : ∀ i v ys nx, its[i]? = some v → J i ys nx → ∃ t v₁ v₂, v = .ref t ∧ Pi i v₁ v₂ ∧ Src true h₀ t #[v₁, v₂] nx)
    (step : ∀ i v₁ v₂, i < its.size → Pi i v₁ v₂ → CStep prog w A s h₀ L m env scope cl ifs elt (fun m₂ => m₂ x = some v₁ ∧ m₂ y = some v₂) (J i) (J (i + 1)) (fun _ => True))
    (hRR : CRR s h₀ L m (J its.size) RR) :
    wpAny (model prog w) A (pyIter (.ref ax)) (fun it s₂ => wpAny (model prog w) A (newList []) (fun acc s₃ =>
      wpAny (model prog w) A (newFunctionEnv scope env.globals cl [] env.qual none .none (some env)) (fun cenv s₄ =>
        codeAny (model prog w) A (.compStart (.ListComp elt [⟨.Tuple [.Name x px, .Name y py] tk₀ tp, iter, ifs, 0⟩] scope pos) 0 it acc { cenv with scope := relabel scope env }) (RR acc cenv.locals) s₄) E s₃) E s₂) E s := by
  obtain ⟨oa, ea, ca, da⟩ := S.get F.keep N
  have hlt : ax < s.heap.objs.size := Heap.lt_size ea
  have hp : (s.heap.push (iterObj tup ax)).get? s.heap.objs.size = some (iterObj tup ax) := Heap.get?_push_size _ rfl
  refine iter_start tup ea ca da ?_
  refine comp_block (h₀ := h₀) (m := m) (news := news) J (fun i _ m₂ _ => ∃ v₁ v₂, Pi i v₁ v₂ ∧ m₂ x = some v₁ ∧ m₂ y = some v₂) (iter_walks tup hh s.heap.objs.size ax (Nat.ne_of_lt hlt) its) hsz (fun _ _ y => y.obj) ?_ hcell hkind ?_ (fun b hb => ?_) (F.push _) (fun p hp => ⟨Heap.get?_push_of_some _ (N p hp).1, (N p hp).2⟩)
    (Nat.ne_of_lt F.ns.lt) (next_is_new F) (fun p hp => Nat.ne_of_lt (Heap.lt_size (N p hp).1)) hJ ?_ ?_ ?_
  · intro i h h' o nw ys y e e' k N' j
    exact y.keep e e' k N' (hS _ _ _ j)
  · cases tup with
    | true => exact ⟨⟨_, hp, rfl, rfl⟩, oa, Heap.get?_push_of_some _ ea, ca, da⟩
    | false => exact ⟨⟨_, hp, rfl, rfl⟩, oa, Heap.get?_push_of_some _ ea, ca, da⟩
  · show b < (s.heap.push _).objs.size
    rw [Heap.size_push]
    rcases List.mem_cons.mp hb with rfl | hb
    · exact Nat.lt_succ_self _
    · rw [List.mem_singleton.mp hb]; exact Nat.lt_succ_of_lt hlt
  · intro i v nx ys h tk C m' Qb hv hJ' N' kp hI hn _ k
    obtain ⟨t, v₁, v₂, rfl, hPi, St⟩ := hitem i v ys nx hv hJ'
    exact bind_pair (s := { s with heap := h, toks := tk }) hh hkind hx hy hxy hn hI (St.get kp N') fun h' tk' m₂ hn' e1 e2 hk' => k h' tk' m₂ hn' ⟨v₁, v₂, hPi, e1, e2⟩ hk'
  · rintro i v ys nx oI oC m₂ C D h tk hi hv hJ' ⟨v₁, v₂, hPi, e1, e2⟩ hC F' N' off ne
    exact step i v₁ v₂ hi hPi ys nx _ oI oC m₂ C D h tk hJ' ⟨e1, e2⟩ hC F' N' off ne trivial
  · exact hRR

theorem dict_name {elt iter : PySem.Expr} {ifs : List PySem.Expr} {x : Str} {px : Pos} {scope : Scope} {cl : List (Str × Addr)} {pos : Pos} {d : Addr} {od : Obj} {kvs : List (Str × Value)} {news : List (Addr × Obj)}
    (J : Nat → List Value → List (Addr × Obj) → Prop) (RR : Value → Addr → Result → Shared → Prop)
    (hh : A.handled = none) (hcell : ∀ y ∈ scope.names, y.2 ≠ .cell) (hkind : scope.kind = .function) (hx : scope.names.lookup x = some .local) (hsz : kvs.length ≤ sizeLine) (lo : (d == sysModules) = false)
    (hd : (d, od) ∈ news) (hod : od.IsDictOf (PySem.strKind prog w) kvs) (F : Fr h₀ L s.heap m) (N : News h₀ L s.heap news) (hJ : J 0 [] news) (hS : ∀ i ys nx, J i ys nx → (d, od) ∈ nx)
    (step : ∀ i k val, kvs[i]? = some (k, val) → ∀ t, CStep prog w A s h₀ L m env scope cl ifs elt (fun m₂ => m₂ x = some (.str k t)) (J i) (J (i + 1)) (fun _ => True))
    (hRR : CRR s h₀ L m (J kvs.length) RR) :
    wpAny (model prog w) A (pyIter (.ref d)) (fun it s₂ => wpAny (model prog w) A (newList []) (fun acc s₃ =>
      wpAny (model prog w) A (newFunctionEnv scope env.globals cl [] env.qual none .none (some env)) (fun cenv s₄ =>
        codeAny (model prog w) A (.compStart (.ListComp elt [⟨.Name x px, iter, ifs, 0⟩] scope pos) 0 it acc { cenv with scope := relabel scope env }) (RR acc cenv.locals) s₄) E s₃) E s₂) E s := by
  obtain ⟨es, ep, hex, hdat, hko, hpr, hnd⟩ := id hod
  have at_ : ∀ {h : Heap} {nx}, News h₀ L h nx → (d, od) ∈ nx → h.DictAt (PySem.strKind prog w) d kvs ep := fun N hm => ⟨od, es, (N _ hm).1, hex, hdat, hko, hpr, hnd⟩
  have hD := at_ N hd
  have hlt : d < s.heap.objs.size := Heap.lt_size (N _ hd).1
  refine wpAny_pyIter_dict lo hD ?_
  refine comp_block (h₀ := h₀) (m := m) (news := news) J (fun i v m₂ _ => ∃ k val t, kvs[i]? = some (k, val) ∧ v = .str k t ∧ m₂ x = some (.str k t)) (Walks.dictKeys (knd := PySem.strKind prog w) hh s.heap.objs.size d (Nat.ne_of_lt hlt) kvs ep) hsz (fun _ _ y => let ⟨o, e, _⟩ := y.1; ⟨o, e⟩) ?_ hcell hkind ⟨⟨_, Heap.get?_push_size _ rfl, rfl, rfl⟩, hD.push _⟩ (fun b hb => ?_) (F.push _) (fun p hp => ⟨Heap.get?_push_of_some _ (N p hp).1, (N p hp).2⟩)
    (Nat.ne_of_lt F.ns.lt) (next_is_new F) (fun p hp => Nat.ne_of_lt (Heap.lt_size (N p hp).1)) hJ ?_ ?_ ?_
  · intro i h h' o nw ys y e e' k N' j
    refine ⟨?_, at_ N' (hS _ _ _ j)⟩
    obtain ⟨o', q, r⟩ := y.1
    rw [e] at q; cases q
    exact ⟨o, e', r⟩
  · show b < (s.heap.push _).objs.size
    rw [Heap.size_push]
    rcases List.mem_cons.mp hb with rfl | hb
    · exact Nat.lt_succ_self _
    · rw [List.mem_singleton.mp hb]; exact Nat.lt_succ_of_lt hlt
  · rintro i v nx ys h tk C m' Qb ⟨k, val, hk, hkey⟩ _ _ _ _ hn _ kk
    obtain ⟨t, rfl⟩ := Value.isStrOf_shape hkey
    exact bind_name (s := { s with heap := h, toks := tk }) hkind hx hn fun h' hn' hs' => kk h' _ _ hn' ⟨k, val, t, hk, rfl, by simp⟩ fun b o hb e => hs'.extBut b o hb e
  · rintro i v ys nx oI oC m₂ C D h tk _ _ hJ' ⟨k, val, t, hk, rfl, hB⟩ hC F' N' off ne
    exact step i k val hk t ys nx _ oI oC m₂ C D h tk hJ' hB hC F' N' off ne trivial
  · exact hRR
end
end Mine
namespace Mine
theorem list_no_keys : typeLookup (.type "list") (Str.ofString "keys") = pure none := by rw [typeLookup_type, builtinLookup_eq_fast]; kernel_rfl
theorem keys_miss {prog : Program} {w : World} {A : Around} {E : Value → Shared → Prop} {s : Shared} {a : Addr} {xs : Array Value} {k : Nat} {sl : Array (Option Value)} {Q : Option Value → Shared → Prop}
    (hx : s.heap.get? a = some { cls := .type "list", dict := none, data := .seq xs k, slots := sl }) (hA : A.handled = none)
    (h : ∀ h' tk, (∀ b o, s.heap.get? b = some o → h'.get? b = some o) → Q none { s with heap := h', toks := tk }) :
    wpAny (model prog w) A (getAttr? (.ref a) (Str.ofString "keys")) Q E s := by
  obtain ⟨hp, g, d, tk, os⟩ := s
  have hT : ∀ tk', (⟨hp, g, d, tk', os⟩ : Shared).TypeIs (.ref a) "list" := fun _ => ⟨_, hx, rfl⟩
  have f1 := sub_AttributeError
  have f3 := F.slot_list_getattribute.lookup
  have f4 := F.slot_list_getattribute.bind (.ref a)
  have f5 := am_list_getattr_none
  unfold getAttr? getAttrBy? getAttrBy
  repeat (any_goals (first | assumption | exact hT _ | ((with_reducible show wpAny _ _ (call (Value.builtin "list.__getattribute__") _ _) _ _ _); refine call_meets F.slot_list_getattribute (hT _) am_entry_list_getattribute (F.args_list_getattribute_2 _ _) (meets_getattribute_miss_list a xs k sl (Str.ofString "keys") _ list_no_keys (by decide) (by decide +kernel)) ⟨hx, hA, fun h' tk' e hx' => ?_⟩) | wp_step))
  obtain ⟨t', u', he⟩ := hx'.there
  show wpAny _ _ (getattributeRaised _ _ _ _ _ _ _) _ _ _
  unfold getattributeRaised
  repeat (any_goals (first | assumption | wp_step))
  exact h h' tk' hx'.keeps

theorem entry_upd : entryFor table "dict.update.loop" = some Builtin.«dict.update.loop» := entryFor_of_tree (by kernel_rfl)
theorem plain_upd : plainId "dict.update.loop" = true := by decide +kernel

inductive KPairs : List (Value × Value) → List (Str × Value) → Prop
  | nil : KPairs [] []
  | cons {k : Str} {t : Tok} {v : Value} {ps : List (Value × Value)} {kvs : List (Str × Value)} : KPairs ps kvs → KPairs ((.str k t, v) :: ps) ((k, v) :: kvs)
theorem KPairs.length {ps : List (Value × Value)} {kvs : List (Str × Value)} (h : KPairs ps kvs) : ps.length = kvs.length := by
  induction h with
  | nil => rfl
  | cons _ ih => rw [List.length_cons, List.length_cons, ih]
theorem KPairs.append {ps qs : List (Value × Value)} {ks ls : List (Str × Value)} (h : KPairs ps ks) (k : KPairs qs ls) : KPairs (ps ++ qs) (ks ++ ls) := by
  induction h with
  | nil => exact k
  | cons _ ih => exact .cons ih
theorem KPairs.get {ps : List (Value × Value)} {kvs : List (Str × Value)} (h : KPairs ps kvs) : ∀ i, (hi : i < ps.length) → (hi' : i < kvs.length) → ∃ t, ps[i] = (.str kvs[i].1 t, kvs[i].2) := by
  induction h with
  | nil => intro i hi; exact absurd hi (Nat.not_lt_zero _)
  | @cons k t v ps ks _ ih =>
    intro n hn hn'
    cases n with
    | zero => exact ⟨t, rfl⟩
    | succ n => exact ih n (Nat.lt_of_succ_lt_succ hn) (Nat.lt_of_succ_lt_succ hn')

section
variable {prog : Program} {w : World} {A : Around} {E : Value → Shared → Prop} {h₀ : Heap} {L : Addr} {m : Str → Option Value} {news : List (Addr × Obj)}
theorem upd_loop {R : Result → Shared → Prop} {d I l : Addr} {vs : List Value} {ps : List (Value × Value)} {kvs : List (Str × Value)} (hh : A.handled = none) (hdI : d ≠ I) (hdl : d ≠ l) (hlI : l ≠ I) (hlen : vs.length = kvs.length) (K : KPairs ps kvs) (hsz : kvs.length ≤ sizeLine) :
    ∀ (k i : Nat) (s : Shared), vs.length - i = k → i ≤ vs.length → s.heap.IsListIter I l i → s.heap.IsList l vs.toArray →
      (∀ j, (hj : j < ps.length) → ∃ t, vs[j]? = some (.ref t) ∧ IsTup s.heap t #[ps[j].1, ps[j].2] ∧ t ≠ d ∧ t ≠ I) → s.heap.DictOf (PySem.strKind prog w) d (merged [] (kvs.take i)) →
      (∀ h' tk, (∀ b o, b ≠ d → b ≠ I → s.heap.get? b = some o → h'.get? b = some o) → h'.DictOf (PySem.strKind prog w) d (merged [] kvs) → R (.ok (.ret .none)) { s with heap := h', toks := tk }) →
      codeAny (model prog w) A (.builtin "dict.update.loop" ⟨[.ref d, .ref I, rawInt i, .none], []⟩) R s := by
  intro k
  induction k with
  | zero =>
    intro i s hk hi hit hl ht hd hR
    obtain rfl : i = vs.length := by omega
    refine codeAny_builtin entry_upd ?_
    rw [Around.under_plainId plain_upd _]
    show wpAny _ A.in1 (pyNext (.ref I) >>= _) _ _ s
    refine wpAny_bind (wpAny_pyNext_list_end (by exact hh) hit hl (by simp) fun h' he => ?_)
    dsimp only
    refine wpAny_bind (wpAny_pure ?_)
    refine wpAny_pure ?_
    have e : kvs.take vs.length = kvs := by rw [hlen]; exact List.take_length
    rw [e] at hd
    obtain ⟨o, ho, x⟩ := Heap.dictOf_iff.mp hd
    exact hR h' s.toks (fun b o hb1 hb2 e => he b o hb2 e) (Heap.dictOf_iff.mpr ⟨o, he d o hdI ho, x⟩)
  | succ k ih =>
    intro i s hk hi hit hl ht hd hR
    have hlt : i < vs.length := by omega
    have hp : i < ps.length := by rw [K.length, ← hlen]; exact hlt
    have hp' : i < kvs.length := by rw [← hlen]; exact hlt
    obtain ⟨t, hvt, hT, htd, htI⟩ := ht i hp
    obtain ⟨u, hkey⟩ := K.get i hp hp'
    refine codeAny_builtin entry_upd ?_
    rw [Around.under_plainId plain_upd _]
    show wpAny _ A.in1 (pyNext (.ref I) >>= _) _ _ s
    refine wpAny_bind (wpAny_pyNext_list_item hit hl (x := .ref t) (by simpa using hvt) fun h₁ hit₁ hs₁ => ?_)
    dsimp only
    have hT₁ : IsTup h₁ t #[ps[i].1, ps[i].2] := hT.extBut hs₁.extBut htI
    obtain ⟨ot, eot, cot, nt, dot⟩ := hT₁
    refine wpAny_bind (wpAny_holding ?_)
    refine wpAny_bind (wpAny_tryCatch ?_)
    unfold Builtin.Dict.pairItems
    refine wpAny_bind (wpAny_typeOf (T := "tuple") ⟨ot, eot, cot⟩ ?_)
    rw [if_pos (by decide)]
    refine wpAny_bind (wpAny_seqItems eot dot ?_)
    refine wpAny_pure ?_
    simp only [Option.getD_some, hkey]
    refine wpAny_holding ?_
    obtain ⟨od, hod, xd⟩ := Heap.dictOf_iff.mp hd
    have hd₁ : h₁.DictOf (PySem.strKind prog w) d (merged [] (kvs.take i)) := Heap.dictOf_iff.mpr ⟨od, hs₁.extBut d od hdI hod, xd⟩
    have hml : (merged [] (kvs.take i)).length ≤ sizeLine := by
      have := merged_length_le ([] : List (Str × Value)) (kvs.take i)
      rw [List.length_take] at this
      simp at this
      omega
    refine wpAny_dictSet_pairs (strKind_is prog w kvs[i].1 u) hd₁ (hsz := hml) fun h₂ hd₂ hs₂ => ?_
    have e1 : merged [] (kvs.take (i + 1)) = stored (merged [] (kvs.take i)) kvs[i].1 kvs[i].2 := merged_take_succ [] kvs i kvs[i] (List.getElem?_eq_getElem hp')
    rw [← e1] at hd₂
    obtain ⟨oI, eI, cI, dI⟩ := hit₁
    have hl₁ : h₁.IsList l vs.toArray := hl.extBut hs₁.extBut hlI
    refine wpAny_pure ⟨plainId_quiet plain_upd _, ?_⟩
    have c1 : (rawInt ((i : Int) + 1)) = rawInt ((i + 1 : Nat) : Int) := by push_cast; rfl
    rw [c1]
    refine ih (i + 1) _ (by omega) hlt ⟨oI, hs₂.extBut I oI (Ne.symm hdI) eI, cI, dI⟩ (hl₁.extBut hs₂.extBut (Ne.symm hdl)) (fun j hj => ?_) hd₂ fun h' tk he hdd => ?_
    · obtain ⟨t', hv', hT', h1, h2⟩ := ht j hj
      exact ⟨t', hv', (hT'.extBut hs₁.extBut h2).extBut hs₂.extBut h1, h1, h2⟩
    · exact hR h' tk (fun b o hb1 hb2 e => he b o hb1 hb2 (hs₂.extBut b o hb1 (hs₁.extBut b o hb2 e))) hdd
end
end Mine
namespace Mine
section
variable {prog : Program} {w : World} {A : Around} {E : Value → Shared → Prop} {s : Shared} {h₀ : Heap} {L l : Addr} {m : Str → Option Value} {news : List (Addr × Obj)} {vs : List Value}
theorem dict_pairs {n : Nat} {ps : List (Value × Value)} {kvs : List (Str × Value)} {Q : Value → Shared → Prop} (hh : A.handled = none) (F : Fr h₀ L s.heap m) (N : News h₀ L s.heap news) (hbig : h₀.NoLimit) (hl : (l, PySem.W.listOf vs.toArray n) ∈ news) (P : PairsAre news vs ps) (K : KPairs ps kvs) (hsz : kvs.length ≤ sizeLine)
    (h : ∀ D o h' tk, o.IsDictOf (PySem.strKind prog w) (merged [] kvs) → (D == sysModules) = false → Fr h₀ L h' m → News h₀ L h' ((D, o) :: news) → (∀ p ∈ news, p.1 < D) → Q (.ref D) { s with heap := h', toks := tk }) :
    wpAny (model prog w) A (call (.type "dict") [.ref l]) Q E s := by
  refine callType_codes (Q₁ := fun obj s₁ => obj = .ref s.heap.objs.size ∧ s₁ = { s with heap := s.heap.push { cls := .type "dict", data := .dict #[] } }) PySem.F.kt_called_dict (PySem.F.kt_typeCall_dict_1 _) PySem.F.entry_dict_init (kt_code_dict_new _ ⟨rfl, rfl⟩) ?_
  rintro obj s₁ ⟨rfl, rfl⟩
  have hnew : (s.heap.push { cls := .type "dict", data := .dict #[] }).DictOf (PySem.strKind prog w) s.heap.objs.size [] := Heap.DictOf.new s.heap
  have hlo := (N _ hl).1
  have hl1 : (s.heap.push { cls := .type "dict", data := .dict #[] }).get? l = some (PySem.W.listOf vs.toArray n) := Heap.get?_push_of_some _ hlo
  have hlt : l < s.heap.objs.size := Heap.lt_size hlo
  refine ⟨hnew.typeIs, PySem.F.args_dict_init_2 _ _, ?_⟩
  unfold Builtin.«dict.__init__»
  refine wpAny_bind ?_
  unfold Builtin.Dict.selfAndRest
  refine wpAny_bind (wpAny_notOrdered_dict hnew.typeIs ?_)
  show wpAny _ _ (pure (s.heap.objs.size, [Value.ref l])) _ _ _
  refine wpAny_pure ?_
  show wpAny _ _ (Builtin.Dict.updateFrom "dict.__init__" s.heap.objs.size (.ref l) [] .none) _ _ _
  unfold Builtin.Dict.updateFrom
  refine wpAny_bind (wpAny_typeOf (T := "list") ⟨_, hl1, rfl⟩ ?_)
  rw [if_pos (by decide)]
  refine wpAny_bind (keys_miss hl1 hh fun h₁ tk₁ k₁ => ?_)
  rw [if_pos (by rfl)]
  refine wpAny_bind (wpAny_rule ?_)
  refine wpAny_bind (wpAny_pyIter_list (items := vs.toArray) ⟨_, k₁ _ _ hl1, rfl, n, rfl⟩ ?_)
  have hk : ∀ b o, s.heap.get? b = some o → (h₁.push { cls := .type "list_iterator", data := .fields #[.ref l, .int 0 0] }).get? b = some o := fun b o e => Heap.get?_push_of_some _ (k₁ _ _ (Heap.get?_push_of_some _ e))
  have hszD : s.heap.objs.size < h₁.objs.size := by
    have : (s.heap.push { cls := .type "dict", data := .dict #[] }).get? s.heap.objs.size = some { cls := .type "dict", data := .dict #[] } := Heap.get?_push_size _ rfl
    exact Heap.lt_size (k₁ _ _ this)
  refine wpAny_pure ⟨plainId_quiet plain_upd _, ?_⟩
  refine upd_loop (A := A.in1) (d := s.heap.objs.size) (I := h₁.objs.size) (l := l) (kvs := kvs) (ps := ps) (by exact hh) (Nat.ne_of_lt hszD) (Nat.ne_of_gt hlt) (Nat.ne_of_lt (Nat.lt_trans hlt hszD)) (by rw [P.length, K.length]) K hsz _ 0 _ rfl (Nat.zero_le _) ⟨_, Heap.get?_push_size _ rfl, rfl, rfl⟩ ⟨_, hk _ _ hlo, rfl, n, rfl⟩ (fun j hj => ?_) ?_ fun h' tk he hd => ?_
  · obtain ⟨a, na, ea, ma⟩ := P.get j hj
    have ha : a < s.heap.objs.size := Heap.lt_size (N _ ma).1
    exact ⟨a, ea, ⟨_, hk _ _ (N _ ma).1, rfl, na, rfl⟩, Nat.ne_of_lt ha, Nat.ne_of_lt (Nat.lt_trans ha hszD)⟩
  · obtain ⟨o, ho, x⟩ := Heap.dictOf_iff.mp hnew
    exact Heap.dictOf_iff.mpr ⟨o, Heap.get?_push_of_some _ (k₁ _ _ ho), x⟩
  · have kk : ∀ b o, s.heap.get? b = some o → h'.get? b = some o := fun b o e => he b o (Nat.ne_of_lt (Heap.lt_size e)) (Nat.ne_of_lt (Nat.lt_trans (Heap.lt_size e) hszD)) (hk _ _ e)
    obtain ⟨o, ho, x⟩ := Heap.dictOf_iff.mp hd
    refine ⟨rfl, h _ o h' tk x (F.notModules (modules_low hbig)) (F.keeps kk) (fun p hp => ?_) fun p hp => Heap.lt_size (N p hp).1⟩
    rcases List.mem_cons.mp hp with rfl | hp
    · exact ⟨ho, Nat.ne_of_gt F.ns.lt, next_is_new F⟩
    · exact ⟨kk _ _ (N p hp).1, (N p hp).2⟩
end
end Mine
namespace Mine
/-- the kind at a place -/
def kindAt (i : Nat) : Str := kinds.getD i Str.empty
theorem kindAt_eq {i : Nat} (h : i < kinds.length) : kindAt i = kinds[i] := by simp [kindAt, List.getD, h]
theorem kindAt_mem {i : Nat} (h : i < 6) : kindAt i ∈ kinds := by
  rw [kindAt_eq h]; exact List.getElem_mem _
theorem kindAt_inj {i j : Nat} (hi : i < 6) (hj : j < 6) (h : kindAt i = kindAt j) : i = j := by
  rw [kindAt_eq hi, kindAt_eq hj] at h
  exact (List.getElem_inj kinds_nodup).mp h
theorem kindAt_of_mem {k : Str} (h : k ∈ kinds) : ∃ i, i < 6 ∧ k = kindAt i := by
  obtain ⟨i, hi, rfl⟩ := List.getElem_of_mem h
  exact ⟨i, hi, (kindAt_eq hi).symm⟩

/-- the times that a dict holds -/
structure TimesOf (kvs : List (Str × Value)) (f : Str → Option Int) : Prop where
  nd : (kvs.map (·.1)).Nodup
  there : ∀ k v, (k, v) ∈ kvs → k ∈ kinds ∧ ∃ i t, v = .int i t ∧ f k = some i
  miss : ∀ k, k ∉ kvs.map (·.1) → f k = none
theorem valueAt_none {kvs : List (Str × Value)} {k : Str} (h : k ∉ kvs.map (·.1)) : valueAt kvs k = none := by
  unfold valueAt
  rw [List.find?_eq_none.mpr fun p hp e => h (List.mem_map.mpr ⟨p, hp, of_decide_eq_true e⟩)]
  rfl
theorem valueAt_some {kvs : List (Str × Value)} {k : Str} (h : k ∈ kvs.map (·.1)) : ∃ v, valueAt kvs k = some v ∧ (k, v) ∈ kvs := by
  obtain ⟨p, hp, rfl⟩ := List.mem_map.mp h
  unfold valueAt
  cases e : kvs.find? (fun kv => decide (kv.1 = p.1)) with
  | none => exact absurd (List.find?_eq_none.mp e p hp) (by simp)
  | some q =>
    have h1 : q.1 = p.1 := by simpa using List.find?_some e
    refine ⟨q.2, rfl, ?_⟩
    rw [← h1]
    exact List.mem_of_find?_eq_some e
theorem valueAt_cons (p : Str × Value) (kvs : List (Str × Value)) (k : Str) : valueAt (p :: kvs) k = if p.1 = k then some p.2 else valueAt kvs k := by
  unfold valueAt
  by_cases e : p.1 = k <;> simp [e]
theorem valueAt_mem {k : Str} {v : Value} : ∀ {kvs : List (Str × Value)}, (kvs.map (·.1)).Nodup → (k, v) ∈ kvs → valueAt kvs k = some v
  | [], _, h => nomatch h
  | p :: kvs, hn, h => by
    rw [List.map_cons, List.nodup_cons] at hn
    rw [valueAt_cons]
    rcases List.mem_cons.mp h with e | h
    · rw [← e, if_pos rfl]
    · have : p.1 ≠ k := fun e => hn.1 (e ▸ List.mem_map.mpr ⟨_, h, rfl⟩)
      rw [if_neg this]
      exact valueAt_mem hn.2 h
theorem TimesOf.len {kvs : List (Str × Value)} {f : Str → Option Int} (x : TimesOf kvs f) : kvs.length ≤ 6 := by
  have := nodup_len x.nd (k := kinds) fun a ha => by
    obtain ⟨p, hp, rfl⟩ := List.mem_map.mp ha
    exact (x.there p.1 p.2 hp).1
  rw [List.length_map] at this
  exact this
theorem TimesOf.look {kvs : List (Str × Value)} {f : Str → Option Int} (x : TimesOf kvs f) (k : Str) : (valueAt kvs k = none ∧ f k = none) ∨ ∃ i t, valueAt kvs k = some (.int i t) ∧ f k = some i := by
  by_cases h : k ∈ kvs.map (·.1)
  · obtain ⟨v, h1, h2⟩ := valueAt_some h
    obtain ⟨_, i, t, rfl, hf⟩ := x.there k v h2
    exact .inr ⟨i, t, h1, hf⟩
  · exact .inl ⟨valueAt_none h, x.miss k h⟩

/-- the pairs that are due among the first kinds -/
def duePairs (f : Str → Option Int) (now : Int) (n : Nat) : List (Int × Int) :=
  (List.range n).filterMap fun j => match f (kindAt j) with
    | some t => if t ≤ now then some (t, (j : Int)) else none
    | none => none
theorem duePairs_succ (f : Str → Option Int) (now : Int) (n : Nat) : duePairs f now (n + 1) = duePairs f now n ++ (match f (kindAt n) with
    | some t => if t ≤ now then [(t, (n : Int))] else []
    | none => []) := by
  unfold duePairs
  rw [List.range_succ, List.filterMap_append]
  congr 1
  simp only [List.filterMap_cons, List.filterMap_nil]
  cases f (kindAt n) with
  | none => rfl
  | some t => by_cases h : t ≤ now <;> simp [h]
theorem duePairs_mem {f : Str → Option Int} {now : Int} {n : Nat} {p : Int × Int} : p ∈ duePairs f now n ↔ ∃ j, j < n ∧ f (kindAt j) = some p.1 ∧ p.1 ≤ now ∧ p.2 = (j : Int) := by
  unfold duePairs
  rw [List.mem_filterMap]
  constructor
  · rintro ⟨j, hj, h⟩
    refine ⟨j, List.mem_range.mp hj, ?_⟩
    cases hf : f (kindAt j) with
    | none => rw [hf] at h; cases h
    | some t =>
      rw [hf] at h
      by_cases ht : t ≤ now
      · simp only [ht, if_true, Option.some.injEq] at h
        subst h
        exact ⟨rfl, ht, rfl⟩
      · simp [ht] at h
  · rintro ⟨j, hj, hf, ht, e⟩
    refine ⟨j, List.mem_range.mpr hj, ?_⟩
    rw [hf]
    simp only [ht, if_true]
    rw [← e]
theorem duePairs_nodup (f : Str → Option Int) (now : Int) : ∀ n, (duePairs f now n).Nodup
  | 0 => List.nodup_nil
  | n + 1 => by
    rw [duePairs_succ]
    have ih := duePairs_nodup f now n
    cases hf : f (kindAt n) with
    | none => simpa using ih
    | some t =>
      by_cases ht : t ≤ now
      · simp only [ht, if_true]
        refine List.nodup_append.mpr ⟨ih, by simp, ?_⟩
        intro p hp q hq e
        obtain ⟨j, hj, _, _, e2⟩ := duePairs_mem.mp hp
        rw [List.mem_singleton] at hq
        rw [e, hq] at e2
        simp at e2
        omega
      · simpa [ht] using ih
theorem duePairs_len (f : Str → Option Int) (now : Int) (n : Nat) : (duePairs f now n).length ≤ n := by
  unfold duePairs
  have := List.length_filterMap_le (fun j => match f (kindAt j) with | some t => if t ≤ now then some (t, (j : Int)) else none | none => none) (List.range n)
  rwa [List.length_range] at this
/-- what is due at a moment, in its sequence -/
def IsDue (f : Str → Option Int) (now : Int) (ds : List Str) : Prop := ∃ ps : List (Int × Int), ps.Perm (duePairs f now 6) ∧ ps.Pairwise lexlt ∧ ds = ps.map fun p => kindAt p.2.toNat
theorem pairs_size {tl : List (Addr × Obj)} {vs : List Value} {ps : List (Value × Value)} {f : Str → Option Int} {now : Int} {i : Nat} (hP : PairsAre tl vs ps) (hK : IntPairs ps (duePairs f now i)) (hi : i < kinds.length) : vs.toArray.size ≤ sizeLine := by
  have := hP.length
  have := hK.length
  have := duePairs_len f now i
  have : kinds.length = 6 := rfl
  rw [sizeLine_eq, List.size_toArray]
  omega
theorem TurnEnd.mk {h₀ h' : Heap} {L I : Addr} {oI : Obj} {J : (Str → Option Value) → List (Addr × Obj) → Prop} {s : Shared} {tk : Nat} {m' : Str → Option Value} {nx all : List (Addr × Obj)}
    (F : Fr h₀ L h' m') (N : News h₀ L h' all) (hI : (I, oI) ∈ all) (hs : ∀ p ∈ nx, p ∈ all) (hn : ∀ p ∈ nx, p.1 ≠ I) (hJ : J m' nx) : TurnEnd h₀ L I oI J s { s with heap := h', toks := tk } :=
  ⟨h', tk, m', nx, all, rfl, F, N, hI, hs, hn, hJ⟩
theorem frM_out {free : List Str} {u m : Str → Option Value} {z : Str} (h : free.contains z = false) : frM free u m z = m z := by
  unfold frM; rw [h]; rfl
theorem free_ne {free : List Str} {x z : Str} (h : free.contains z = false) (hx : free.contains x = true) : z ≠ x := fun e => by rw [e, hx] at h; cases h
/-- what the loop of all_due keeps -/
def DueJ (f : Str → Option Int) (now : Int) (news : List (Addr × Obj)) (l : Addr) (i : Nat) (nx : List (Addr × Obj)) : Prop :=
  ∃ vs n ps tl, nx = (l, PySem.W.listOf (List.toArray vs) n) :: tl ∧ PairsAre tl vs ps ∧ IntPairs ps (duePairs f now i) ∧ (∀ q ∈ news, q ∈ tl) ∧ (∀ q ∈ tl, q.1 ≠ l)
theorem due_turn {h₀ h' : Heap} {L I l D : Addr} {oI : Obj} {s : Shared} {tk n n' c i : Nat} {free : List Str} {m₀ m' : Str → Option Value} {tl news : List (Addr × Obj)} {vs : List Value} {ps : List (Value × Value)} {f : Str → Option Int} {now t : Int} {u u' : Tok}
    (F : Fr h₀ L h' m') (N : News h₀ L h' ((D, ({ cls := .type "tuple", data := .seq #[.int t u, .int (i : Int) u'] c } : Obj)) :: (I, oI) :: (l, PySem.W.listOf (vs.toArray.push (.ref D)) n') :: tl))
    (hDI : D ≠ I) (hDl : D ≠ l) (hP : PairsAre tl vs ps) (hK : IntPairs ps (duePairs f now i)) (hsub : ∀ q ∈ news, q ∈ tl) (hoff : ∀ q ∈ tl, q.1 ≠ l) (hI : ∀ q ∈ (l, PySem.W.listOf (List.toArray vs) n) :: tl, q.1 ≠ I)
    (hft : f (kindAt i) = some t) (hle : t ≤ now) (hfree : ∀ z, free.contains z = false → m' z = m₀ z) :
    TurnEnd h₀ L I oI (TurnJ free m₀ (fun _ => DueJ f now news l (i + 1))) s { s with heap := h', toks := tk } := by
  refine TurnEnd.mk (nx := (l, PySem.W.listOf (List.toArray (vs ++ [.ref D])) n') :: (D, ({ cls := .type "tuple", data := .seq #[.int t u, .int (i : Int) u'] c } : Obj)) :: tl) F N ?_ ?_ ?_ ⟨hfree, ?_⟩
  · simp
  · intro q hq
    rcases List.mem_cons.mp hq with rfl | hq
    · simp
    · rcases List.mem_cons.mp hq with rfl | hq
      · simp
      · exact List.mem_cons_of_mem _ (List.mem_cons_of_mem _ (List.mem_cons_of_mem _ hq))
  · intro q hq
    rcases List.mem_cons.mp hq with rfl | hq
    · exact hI (l, PySem.W.listOf (List.toArray vs) n) List.mem_cons_self
    · rcases List.mem_cons.mp hq with rfl | hq
      · exact hDI
      · exact hI _ (List.mem_cons_of_mem _ hq)
  · refine ⟨vs ++ [.ref D], n', ps ++ [(.int t u, .int (i : Int) u')], _, rfl, (hP.mono fun q hq => List.mem_cons_of_mem _ hq).append (.cons List.mem_cons_self .nil), ?_, fun q hq => List.mem_cons_of_mem _ (hsub q hq), ?_⟩
    · rw [duePairs_succ, hft]
      simp only [hle, if_true]
      exact hK.append (.cons .nil)
    · intro q hq
      rcases List.mem_cons.mp hq with rfl | hq
      · exact hDl
      · exact hoff q hq
theorem due_stay {h₀ h' : Heap} {L I l : Addr} {oI : Obj} {s : Shared} {tk n i : Nat} {free : List Str} {m₀ m' : Str → Option Value} {tl news : List (Addr × Obj)} {vs : List Value} {ps : List (Value × Value)} {f : Str → Option Int} {now : Int}
    (F : Fr h₀ L h' m') (N : News h₀ L h' ((I, oI) :: (l, PySem.W.listOf (List.toArray vs) n) :: tl))
    (hP : PairsAre tl vs ps) (hK : IntPairs ps (duePairs f now i)) (hsub : ∀ q ∈ news, q ∈ tl) (hoff : ∀ q ∈ tl, q.1 ≠ l) (hI : ∀ q ∈ (l, PySem.W.listOf (List.toArray vs) n) :: tl, q.1 ≠ I)
    (hft : f (kindAt i) = none ∨ ∃ t, f (kindAt i) = some t ∧ ¬ t ≤ now) (hfree : ∀ z, free.contains z = false → m' z = m₀ z) :
    TurnEnd h₀ L I oI (TurnJ free m₀ (fun _ => DueJ f now news l (i + 1))) s { s with heap := h', toks := tk } := by
  refine TurnEnd.mk (nx := (l, PySem.W.listOf (List.toArray vs) n) :: tl) F N List.mem_cons_self (fun q hq => List.mem_cons_of_mem _ hq) hI ⟨hfree, vs, n, ps, tl, rfl, hP, ?_, hsub, hoff⟩
  rw [duePairs_succ]
  rcases hft with e | ⟨t, e, ht⟩
  · rw [e]; simpa using hK
  · rw [e]; simpa [ht] using hK
theorem CEnd.mk {h₀ h' : Heap} {L I C D : Addr} {m : Str → Option Value} {oI oC oD : Obj} {s : Shared} {J : List (Addr × Obj) → Prop} {tk : Nat} {all nx : List (Addr × Obj)} (F : Fr h₀ L h' m) (N : News h₀ L h' all) (hI : (I, oI) ∈ all) (hC : (C, oC) ∈ all) (hD : (D, oD) ∈ all)
    (hs : ∀ p ∈ nx, p ∈ all) (off : ∀ p ∈ nx, p.1 ≠ I ∧ p.1 ≠ C ∧ p.1 ≠ D) (hJ : J nx) : CEnd h₀ L m I oI C oC D oD s J { s with heap := h', toks := tk } :=
  ⟨h', tk, all, nx, rfl, F, N, hI, hC, hD, hs, off, hJ⟩
theorem CEnd.stay {h₀ h' : Heap} {L I C D : Addr} {m : Str → Option Value} {oI oC oD : Obj} {s : Shared} {J : List (Addr × Obj) → Prop} {tk : Nat} {nx : List (Addr × Obj)} (F : Fr h₀ L h' m) (N : News h₀ L h' ((I, oI) :: (C, oC) :: (D, oD) :: nx))
    (off : ∀ p ∈ nx, p.1 ≠ I ∧ p.1 ≠ C ∧ p.1 ≠ D) (hJ : J nx) : CEnd h₀ L m I oI C oC D oD s J { s with heap := h', toks := tk } :=
  CEnd.mk F N (by simp) (by simp) (by simp) (fun _ hp => List.mem_cons_of_mem _ (List.mem_cons_of_mem _ (List.mem_cons_of_mem _ hp))) off hJ
theorem kinds_item {prog : Program} {w : World} {A : Around} {E : Value → Shared → Prop} {s : Shared} {h₀ : Heap} {L : Addr} {m : Str → Option Value} {value slice : PySem.Expr} {k : Int} {u : Tok} {Q : Value → Shared → Prop} (F : Fr h₀ L s.heap m) (X : (Mine.hd.heap_39 w.params).In h₀) (h0 : 0 ≤ k) (h1 : k < 6) (h : ∀ t', Q (.str (kindAt k.toNat) t') s)
    (hs : subscripted slice false (.ref 15) (.int k u) = operate [.ref 15, .int k u] (getItem (.ref 15) (.int k u)) := by with_unfolding_all rfl) (hg : ∀ r, letTemporaryGo value (.ref 15) r = pure () := by intro _; with_unfolding_all rfl) :
    wpAny (model prog w) A (subscriptTail value slice (.ref 15) (.int k u)) Q E s := by
  obtain ⟨vs, n, e, hv⟩ := kinds_at X
  exact item_strsTu ⟨_, F.keep _ _ e, rfl, n, rfl⟩ hv h0 (by show k < ((6 : Nat) : Int); omega) (by omega) h hs hg
theorem strs_append {vs us : List Value} {ks ls : List Str} (h : StrsAre vs ks) (k : StrsAre us ls) : StrsAre (vs ++ us) (ks ++ ls) := by
  induction h with
  | nil => exact k
  | cons _ _ _ ih => exact .cons _ _ ih
/-- a told time -/
inductive Told : Value → Option Int → Prop
  | none : Told .none none
  | int (i : Int) (t : Tok) : Told (.int i t) (some i)
def updF (f : Str → Option Int) (k : Str) (o : Option Int) : Str → Option Int := fun z => if z = k then o else f z
end Mine
namespace Mine
def dropK (kvs : List (Str × Value)) (k : Str) : List (Str × Value) := kvs.filter fun p => decide (p.1 ≠ k)
theorem dropK_keys (kvs : List (Str × Value)) (k : Str) : k ∉ (dropK kvs k).map (·.1) := by
  intro h
  obtain ⟨p, hp, e⟩ := List.mem_map.mp h
  have := (List.mem_filter.mp hp).2
  exact of_decide_eq_true this e
theorem TimesOf.drop {kvs : List (Str × Value)} {f : Str → Option Int} (x : TimesOf kvs f) (k : Str) : TimesOf (dropK kvs k) (updF f k none) where
  nd := (List.filter_sublist.map _).nodup x.nd
  there := fun z v h => by
    obtain ⟨h1, h2⟩ := List.mem_filter.mp h
    obtain ⟨a, i, t, e1, e2⟩ := x.there z v h1
    exact ⟨a, i, t, e1, by unfold updF; rw [if_neg (of_decide_eq_true h2)]; exact e2⟩
  miss := fun z h => by
    unfold updF
    by_cases e : z = k
    · rw [if_pos e]
    · rw [if_neg e]
      refine x.miss z fun hz => h ?_
      obtain ⟨p, hp, rfl⟩ := List.mem_map.mp hz
      exact List.mem_map.mpr ⟨p, List.mem_filter.mpr ⟨hp, decide_eq_true e⟩, rfl⟩
theorem stored_fresh {kvs : List (Str × Value)} {k : Str} (v : Value) (h : k ∉ kvs.map (·.1)) : stored kvs k v = kvs ++ [(k, v)] := by
  unfold stored
  rw [if_neg]
  intro hh
  obtain ⟨x, hx, he⟩ := List.any_eq_true.mp hh
  exact h (List.mem_map.mpr ⟨x, hx, of_decide_eq_true he⟩)
theorem TimesOf.put {kvs : List (Str × Value)} {f : Str → Option Int} (x : TimesOf kvs f) {k : Str} (hk : k ∈ kinds) (i : Int) (t : Tok) : TimesOf (stored (dropK kvs k) k (.int i t)) (updF f k (some i)) := by
  have y := x.drop k
  rw [stored_fresh _ (dropK_keys kvs k)]
  constructor
  · rw [List.map_append]
    refine List.nodup_append.mpr ⟨y.nd, by simp, ?_⟩
    rintro a ha b hb e
    rw [List.map_cons, List.map_nil, List.mem_singleton] at hb
    rw [e, hb] at ha
    exact dropK_keys kvs k ha
  · intro z v h
    rcases List.mem_append.mp h with h | h
    · obtain ⟨a, j, u, e1, e2⟩ := y.there z v h
      refine ⟨a, j, u, e1, ?_⟩
      have : z ≠ k := by
        intro e
        rw [e] at h
        exact dropK_keys kvs k (List.mem_map.mpr ⟨_, h, rfl⟩)
      unfold updF at e2 ⊢
      rwa [if_neg this] at e2 ⊢
    · obtain ⟨rfl, rfl⟩ := Prod.mk.inj (List.mem_singleton.mp h)
      exact ⟨hk, i, t, rfl, by unfold updF; rw [if_pos rfl]⟩
  · intro z h
    rw [List.map_append, List.mem_append, not_or] at h
    have h1 := y.miss z h.1
    have : z ≠ k := fun e => h.2 (by simp [e])
    unfold updF at h1 ⊢
    rwa [if_neg this] at h1 ⊢
/-- what the comprehension of with_alarm keeps -/
def OneJ (kvs : List (Str × Value)) (k : Str) (base : List (Addr × Obj)) (i : Nat) (ys : List Value) (nx : List (Addr × Obj)) : Prop :=
  ∃ ps, PairsAre nx ys ps ∧ KPairs ps (dropK (kvs.take i) k) ∧ ∀ q ∈ base, q ∈ nx
theorem one_stay {kvs : List (Str × Value)} {k key : Str} {val : Value} {i : Nat} (hi : kvs[i]? = some (key, val)) (h : key = k) : dropK (kvs.take (i + 1)) k = dropK (kvs.take i) k := by
  obtain ⟨hlt, e⟩ := List.getElem?_eq_some_iff.mp hi
  unfold dropK
  rw [List.take_succ_eq_append_getElem hlt, e, List.filter_append]
  simp [h]
theorem one_more {kvs : List (Str × Value)} {k key : Str} {val : Value} {i : Nat} (hi : kvs[i]? = some (key, val)) (h : key ≠ k) : dropK (kvs.take (i + 1)) k = dropK (kvs.take i) k ++ [(key, val)] := by
  obtain ⟨hlt, e⟩ := List.getElem?_eq_some_iff.mp hi
  unfold dropK
  rw [List.take_succ_eq_append_getElem hlt, e, List.filter_append]
  simp [h]
/-- a turn of a comprehension of pairs that makes one -/
theorem pair_end {h₀ h' : Heap} {L I C D a : Addr} {m : Str → Option Value} {oI oC : Obj} {s : Shared} {J : List Value → List (Addr × Obj) → Prop} {tk c : Nat} {nx : List (Addr × Obj)} {ys : List Value} {v₁ v₂ : Value} (F : Fr h₀ L h' m)
    (N : News h₀ L h' ((a, ({ cls := .type "tuple", data := .seq #[v₁, v₂] c } : Obj)) :: (I, oI) :: (C, oC) :: (D, lst ys) :: nx)) (off : ∀ p ∈ nx, p.1 ≠ I ∧ p.1 ≠ C ∧ p.1 ≠ D) (l1 : a ≠ I ∧ a ≠ C ∧ a ≠ D)
    (hJ : J (ys ++ [.ref a]) ((a, ({ cls := .type "tuple", data := .seq #[v₁, v₂] c } : Obj)) :: nx)) : CEnd h₀ L m I oI C oC D (lst ys) s (J (ys ++ [.ref a])) { s with heap := h', toks := tk } := by
  refine CEnd.mk F N (by simp) (by simp) (by simp) (nx := (a, ({ cls := .type "tuple", data := .seq #[v₁, v₂] c } : Obj)) :: nx) ?_ ?_ hJ
  · intro p hp
    rcases List.mem_cons.mp hp with rfl | hp
    · exact List.mem_cons_self
    · exact List.mem_cons_of_mem _ (List.mem_cons_of_mem _ (List.mem_cons_of_mem _ (List.mem_cons_of_mem _ hp)))
  · intro p hp
    rcases List.mem_cons.mp hp with rfl | hp
    · exact l1
    · exact off p hp
abbrev fieldsT (w : World) (d : Addr) (t : Tok) : Obj := dictOf [{ hash := PyData.keyHash w.params (Str.ofString "times"), key := .str (Str.ofString "times") t, val := .ref d }] 1
theorem UpdF.upd {d : Addr} {o : Obj} {l : List (Addr × Obj)} {g : Obj → List (Addr × Obj)} (U : UpdF d o l g) (o' : Obj) : Upd d o o' l (g o') := by
  induction U with
  | head h => exact .head h
  | tail h _ ih => exact .tail h ih
theorem UpdF.mem {d : Addr} {o : Obj} {l : List (Addr × Obj)} {g : Obj → List (Addr × Obj)} (U : UpdF d o l g) : (d, o) ∈ l := by
  induction U with
  | head h => exact List.mem_cons_self
  | tail h _ ih => exact List.mem_cons_of_mem _ ih
theorem ne_of_all {news : List (Addr × Obj)} {d x : Addr} {o o' : Obj} (h : ∀ q ∈ news, q.1 ≠ d) (hm : (x, o') ∈ news) : (d, o).1 ≠ x := fun e => h _ hm e.symm
theorem upd_over {l dx : Addr} {ol o o' o₁ : Obj} {news : List (Addr × Obj)} {g : Obj → List (Addr × Obj)} (h : ∀ q ∈ news, q.1 ≠ l) (hm : (dx, o₁) ∈ news) (U : ∀ o', Upd dx o o' news (g o')) : Upd dx o o' ((l, ol) :: news) ((l, ol) :: g o') :=
  .tail (fun e => h _ hm e.symm) (U o')
theorem Fr.name {h₀ h : Heap} {L : Addr} {k x : Str} {w v : Value} {m : Str → Option Value} (F : Fr h₀ L h (fun y => if y = k then some w else m y)) (e : m x = some v) : Fr h₀ L h (fun y => if y = k then some w else if y = x then some v else m y) := by
  have : (fun y => if y = k then some w else m y) = (fun y => if y = k then some w else if y = x then some v else m y) := by
    funext y
    by_cases h : y = k
    · rw [if_pos h, if_pos h]
    · rw [if_neg h, if_neg h]
      by_cases h' : y = x
      · rw [if_pos h', h', e]
      · rw [if_neg h']
  rw [← this]; exact F
theorem Fr.name0 {h₀ h : Heap} {L : Addr} {x : Str} {v : Value} {m : Str → Option Value} (F : Fr h₀ L h m) (e : m x = some v) : Fr h₀ L h (fun y => if y = x then some v else m y) := by
  have : m = (fun y => if y = x then some v else m y) := by
    funext y
    by_cases h' : y = x
    · rw [if_pos h', h', e]
    · rw [if_neg h']
  rw [← this]; exact F
/-- the least time among the first kinds -/
def IsLeast (f : Str → Option Int) (n : Nat) (t : Int) : Prop := (∃ j, j < n ∧ f (kindAt j) = some t) ∧ ∀ j, j < n → ∀ t', f (kindAt j) = some t' → t ≤ t'
theorem IsLeast.more {f : Str → Option Int} {n : Nat} {t : Int} (h : IsLeast f n t) (k : ∀ t', f (kindAt n) = some t' → t ≤ t') : IsLeast f (n + 1) t := by
  obtain ⟨⟨j, hj, e⟩, h2⟩ := h
  refine ⟨⟨j, Nat.lt_succ_of_lt hj, e⟩, fun i hi t' e' => ?_⟩
  rcases Nat.lt_succ_iff_lt_or_eq.mp hi with hi | rfl
  · exact h2 i hi t' e'
  · exact k t' e'
theorem none_more {f : Str → Option Int} {n : Nat} (h : ∀ j, j < n → f (kindAt j) = none) (k : f (kindAt n) = none) : ∀ j, j < n + 1 → f (kindAt j) = none := by
  intro i hi
  rcases Nat.lt_succ_iff_lt_or_eq.mp hi with hi | rfl
  · exact h i hi
  · exact k
theorem least_new {f : Str → Option Int} {n : Nat} {t : Int} (h : ∀ j, j < n → ∀ t', f (kindAt j) = some t' → t ≤ t') (k : f (kindAt n) = some t) : IsLeast f (n + 1) t := by
  refine ⟨⟨n, Nat.lt_succ_self n, k⟩, fun i hi t' e' => ?_⟩
  rcases Nat.lt_succ_iff_lt_or_eq.mp hi with hi | rfl
  · exact h i hi t' e'
  · rw [k] at e'; cases e'; exact Int.le_refl _
inductive Found (f : Str → Option Int) (i : Nat) (news nx : List (Addr × Obj)) : Value → Prop
  | none : (∀ j, j < i → f (kindAt j) = none) → Found f i news nx .none
  | some {D : Addr} {c : Nat} {t : Int} {u : Tok} {z : Value} : (D, ({ cls := .type "tuple", data := .seq #[.int t u, z] c } : Obj)) ∈ nx → (∀ q ∈ news, q.1 ≠ D) → IsLeast f i t → Found f i news nx (.ref D)
/-- what the loop of next_due keeps -/
def NextJ (f : Str → Option Int) (news : List (Addr × Obj)) (i : Nat) (m : Str → Option Value) (nx : List (Addr × Obj)) : Prop :=
  ∃ v, m (Str.ofString "found") = .some v ∧ Found f i news nx v ∧ ∀ q ∈ news, q ∈ nx
theorem turn_stay {h₀ h' : Heap} {L I : Addr} {oI : Obj} {s : Shared} {tk : Nat} {free : List Str} {m₀ m' : Str → Option Value} {nx : List (Addr × Obj)} {J : (Str → Option Value) → List (Addr × Obj) → Prop}
    (F : Fr h₀ L h' m') (N : News h₀ L h' ((I, oI) :: nx)) (hI : ∀ q ∈ nx, q.1 ≠ I) (hfree : ∀ z, free.contains z = false → m' z = m₀ z) (hJ : J m' nx) : TurnEnd h₀ L I oI (TurnJ free m₀ J) s { s with heap := h', toks := tk } :=
  TurnEnd.mk F N List.mem_cons_self (fun q hq => List.mem_cons_of_mem _ hq) hI ⟨hfree, hJ⟩
theorem turn_one {h₀ h' : Heap} {L I D : Addr} {oI oD : Obj} {s : Shared} {tk : Nat} {free : List Str} {m₀ m' : Str → Option Value} {nx : List (Addr × Obj)} {J : (Str → Option Value) → List (Addr × Obj) → Prop}
    (F : Fr h₀ L h' m') (N : News h₀ L h' ((D, oD) :: (I, oI) :: nx)) (hI : ∀ q ∈ nx, q.1 ≠ I) (hD : D ≠ I) (hfree : ∀ z, free.contains z = false → m' z = m₀ z) (hJ : J m' ((D, oD) :: nx)) : TurnEnd h₀ L I oI (TurnJ free m₀ J) s { s with heap := h', toks := tk } := by
  refine TurnEnd.mk (nx := (D, oD) :: nx) F N (List.mem_cons_of_mem _ List.mem_cons_self) ?_ ?_ ⟨hfree, hJ⟩
  · intro q hq
    rcases List.mem_cons.mp hq with rfl | hq
    · exact List.mem_cons_self
    · exact List.mem_cons_of_mem _ (List.mem_cons_of_mem _ hq)
  · intro q hq
    rcases List.mem_cons.mp hq with rfl | hq
    · exact hD
    · exact hI q hq
theorem allLt_ne {d : Addr} : ∀ {l : List (Addr × Obj)}, AllLt d l → ∀ q ∈ l, q.1 ≠ d
  | [], _, _, h => nomatch h
  | p :: r, h, q, hq => by
    rcases List.mem_cons.mp hq with rfl | hq
    · exact Nat.ne_of_lt h.1
    · exact allLt_ne h.2 q hq
theorem news_pick {h₀ h : Heap} {L : Addr} {news nx : List (Addr × Obj)} {p : Addr × Obj} (N : News h₀ L h nx) (hp : p ∈ nx) (hs : ∀ q ∈ news, q ∈ nx) : News h₀ L h (p :: news) := News.sub N fun q hq => by
  rcases List.mem_cons.mp hq with rfl | hq
  · exact hp
  · exact hs q hq
def IsFirst (f : Str → Option Int) (o : Option Int) : Prop := match o with
  | none => ∀ j, j < 6 → f (kindAt j) = none
  | some t => IsLeast f 6 t
end Mine
namespace Mine
/-- an Alarms object in a ledger, and the times that it holds -/
def AlarmAt (prog : Program) (w : World) (x dx d : Addr) (f : Str → Option Int) (nx : List (Addr × Obj)) : Prop :=
  ∃ t od kvs, (x, instObj 84 dx) ∈ nx ∧ (dx, fieldsT w d t) ∈ nx ∧ (d, od) ∈ nx ∧ od.IsDictOf (PySem.strKind prog w) kvs ∧ (d == sysModules) = false ∧ TimesOf kvs f ∧ d ≠ dx ∧ x ≠ dx
theorem AlarmAt.mono {prog : Program} {w : World} {x dx d : Addr} {f : Str → Option Int} {nx nx' : List (Addr × Obj)} (h : AlarmAt prog w x dx d f nx) (hs : ∀ q ∈ nx, q.1 = x ∨ q.1 = dx ∨ q.1 = d → q ∈ nx') : AlarmAt prog w x dx d f nx' := by
  obtain ⟨t, od, kvs, a, b, c, r⟩ := h
  exact ⟨t, od, kvs, hs _ a (.inl rfl), hs _ b (.inr (.inl rfl)), hs _ c (.inr (.inr rfl)), r⟩
def AlarmIn (prog : Program) (w : World) (x dx : Addr) (f : Str → Option Int) (nx : List (Addr × Obj)) : Prop := ∃ d, AlarmAt prog w x dx d f nx
theorem AlarmIn.mono {prog : Program} {w : World} {x dx : Addr} {f : Str → Option Int} {nx nx' : List (Addr × Obj)} (h : AlarmIn prog w x dx f nx) (hs : ∀ q ∈ nx, q ∈ nx') : AlarmIn prog w x dx f nx' := by
  obtain ⟨d, h⟩ := h
  exact ⟨d, h.mono fun q hq _ => hs q hq⟩
def avoid (l : List (Addr × Obj)) (dx : Addr) : List (Addr × Obj) := l.filter fun q => decide (q.1 ≠ dx)
theorem avoid_mem {l : List (Addr × Obj)} {dx : Addr} {q : Addr × Obj} (h : q ∈ l) (hn : q.1 ≠ dx) : q ∈ avoid l dx := List.mem_filter.mpr ⟨h, decide_eq_true hn⟩
theorem avoid_of {l : List (Addr × Obj)} {dx : Addr} {q : Addr × Obj} (h : q ∈ avoid l dx) : q ∈ l ∧ q.1 ≠ dx := ⟨(List.mem_filter.mp h).1, of_decide_eq_true (List.mem_filter.mp h).2⟩
theorem news_front {h₀ h : Heap} {L dx : Addr} {o : Obj} {l : List (Addr × Obj)} (N : News h₀ L h l) (hm : (dx, o) ∈ l) : News h₀ L h ((dx, o) :: avoid l dx) := News.sub N fun q hq => by
  rcases List.mem_cons.mp hq with rfl | hq
  · exact hm
  · exact (avoid_of hq).1
/-- take what is due away -/
def remF (f : Str → Option Int) (ds : List Str) : Str → Option Int := fun z => if z ∈ ds then none else f z
theorem remF_nil (f : Str → Option Int) : remF f [] = f := by funext z; simp [remF]
theorem remF_snoc (f : Str → Option Int) (ds : List Str) (k : Str) : remF f (ds ++ [k]) = updF (remF f ds) k none := by
  funext z
  unfold remF updF
  by_cases h : z = k
  · simp [h]
  · by_cases h' : z ∈ ds <;> simp [h, h']
theorem IsDue.mem {f : Str → Option Int} {now : Int} {ds : List Str} (h : IsDue f now ds) : ∀ k ∈ ds, k ∈ kinds := by
  obtain ⟨ps, hp, _, rfl⟩ := h
  intro k hk
  obtain ⟨p, hpm, rfl⟩ := List.mem_map.mp hk
  obtain ⟨j, hj, _, _, e⟩ := duePairs_mem.mp (hp.mem_iff.mp hpm)
  exact kindAt_mem (by omega)
theorem IsDue.len {f : Str → Option Int} {now : Int} {ds : List Str} (h : IsDue f now ds) : ds.length ≤ 6 := by
  obtain ⟨ps, hp, _, rfl⟩ := h
  rw [List.length_map, hp.length_eq]
  exact duePairs_len _ _ _
/-- a row of a kind and a time or None -/
inductive RowsAre : List (Value × Value) → List (Str × Option Int) → Prop
  | nil : RowsAre [] []
  | cons {k : Str} {t : Tok} {v : Value} {o : Option Int} {ps : List (Value × Value)} {rs : List (Str × Option Int)} : k ∈ kinds → Told v o → RowsAre ps rs → RowsAre ((.str k t, v) :: ps) ((k, o) :: rs)
theorem RowsAre.length {ps : List (Value × Value)} {rs : List (Str × Option Int)} (h : RowsAre ps rs) : ps.length = rs.length := by
  induction h with
  | nil => rfl
  | cons _ _ _ ih => rw [List.length_cons, List.length_cons, ih]
theorem RowsAre.append {ps qs : List (Value × Value)} {rs us : List (Str × Option Int)} (h : RowsAre ps rs) (k : RowsAre qs us) : RowsAre (ps ++ qs) (rs ++ us) := by
  induction h with
  | nil => exact k
  | cons a b _ ih => exact .cons a b ih
theorem RowsAre.rev {ps : List (Value × Value)} {rs : List (Str × Option Int)} (h : RowsAre ps rs) : RowsAre ps.reverse rs.reverse := by
  induction h with
  | nil => exact .nil
  | cons a b _ ih => rw [List.reverse_cons, List.reverse_cons]; exact ih.append (.cons a b .nil)
theorem RowsAre.get {ps : List (Value × Value)} {rs : List (Str × Option Int)} (h : RowsAre ps rs) : ∀ i, (hi : i < ps.length) → (hi' : i < rs.length) → (rs[i]).1 ∈ kinds ∧ ∃ t v, ps[i] = (.str (rs[i]).1 t, v) ∧ Told v (rs[i]).2 := by
  induction h with
  | nil => intro i hi; exact absurd hi (Nat.not_lt_zero _)
  | cons hk ht _ ih =>
    intro n hn hn'
    cases n with
    | zero => exact ⟨hk, _, _, rfl, ht⟩
    | succ n => exact ih n (Nat.lt_of_succ_lt_succ hn) (Nat.lt_of_succ_lt_succ hn')
/-- the times after the rows are put, each later by a number -/
def madeF (rows : List (Str × Option Int)) (more : Int) : Str → Option Int := rows.foldl (fun f r => updF f r.1 (r.2.map (· + more))) fun _ => none
theorem madeF_snoc (rows : List (Str × Option Int)) (r : Str × Option Int) (more : Int) : madeF (rows ++ [r]) more = updF (madeF rows more) r.1 (r.2.map (· + more)) := by
  unfold madeF
  rw [List.foldl_append]
  rfl
theorem Src.of_list {h₀ : Heap} {ax : Addr} {vs : List Value} {n : Nat} {nx : List (Addr × Obj)} (h : (ax, PySem.W.listOf (List.toArray vs) n) ∈ nx) : Src false h₀ ax (List.toArray vs) nx := ⟨_, .inr h, rfl, n, rfl⟩
theorem Src.of_pair {h₀ : Heap} {a : Addr} {v₁ v₂ : Value} {n : Nat} {nx : List (Addr × Obj)} (h : (a, ({ cls := .type "tuple", data := .seq #[v₁, v₂] n } : Obj)) ∈ nx) : Src true h₀ a #[v₁, v₂] nx := ⟨_, .inr h, rfl, n, rfl⟩
/-- what the loop of take_due keeps -/
def TakeJ (prog : Program) (w : World) (x dx : Addr) (f : Str → Option Int) (news : List (Addr × Obj)) (l : Addr) (vs : List Value) (n : Nat) (ds : List Str) (i : Nat) (_m : Str → Option Value) (nx : List (Addr × Obj)) : Prop :=
  AlarmIn prog w x dx (remF f (ds.take i)) nx ∧ (l, PySem.W.listOf (List.toArray vs) n) ∈ nx ∧ ∀ q ∈ news, q.1 ≠ dx → q ∈ nx
theorem AlarmAt.avoid {prog : Program} {w : World} {x dx d I : Addr} {f : Str → Option Int} {nx : List (Addr × Obj)} (h : AlarmAt prog w x dx d f nx) (h1 : x ≠ I) (h2 : dx ≠ I) (h3 : d ≠ I) : AlarmAt prog w x dx d f (Mine.avoid nx I) :=
  h.mono fun q hq hq' => avoid_mem hq (by
    rcases hq' with e | e | e
    · rw [e]; exact h1
    · rw [e]; exact h2
    · rw [e]; exact h3)
theorem AlarmIn.intro {prog : Program} {w : World} {x dx d : Addr} {f : Str → Option Int} {nx : List (Addr × Obj)} (h : AlarmAt prog w x dx d f nx) : AlarmIn prog w x dx f nx := ⟨d, h⟩
/-- what the loop of _law_made keeps -/
def MadeJ (prog : Program) (w : World) (rows : List (Str × Option Int)) (more : Int) (news : List (Addr × Obj)) (x dx : Addr) (i : Nat) (_m : Str → Option Value) (nx : List (Addr × Obj)) : Prop :=
  ∃ d, AlarmAt prog w x dx d (madeF (rows.take i) more) nx ∧ (∀ q ∈ news, q ∈ nx) ∧ (∀ q ∈ news, q.1 ≠ d)
theorem TimesOf.nil : TimesOf [] fun _ => none := ⟨List.nodup_nil, fun _ _ h => (nomatch h), fun _ _ => rfl⟩
theorem made_turn {prog : Program} {w : World} {h₀ h' : Heap} {L I x dx d' : Addr} {oI : Obj} {s : Shared} {tk : Nat} {free : List Str} {m₀ m' : Str → Option Value} {rows : List (Str × Option Int)} {more : Int} {news nx nx' : List (Addr × Obj)} {i : Nat} {d : Addr} {t : Tok} {o : Option Int}
    (F : Fr h₀ L h' m') (N : News h₀ L h' nx') (hi : i < rows.length) (hI : ∀ q ∈ nx, q.1 ≠ I) (hsub : ∀ q ∈ news, q ∈ nx) (b1 : (x, instObj 84 dx) ∈ nx) (b2 : (dx, fieldsT w d t) ∈ nx) (hdx : ∀ q ∈ news, q.1 ≠ dx)
    (al : AlarmAt prog w x dx d' (updF (madeF (rows.take i) more) (rows[i]).1 o) nx') (ho : o = (rows[i]).2.map (· + more)) (sub : ∀ q ∈ (I, oI) :: nx, q.1 ≠ dx → q ∈ nx') (ne : ∀ q ∈ (I, oI) :: nx, q.1 ≠ d') (hfree : ∀ z, free.contains z = false → m' z = m₀ z) :
    TurnEnd h₀ L I oI (TurnJ free m₀ (MadeJ prog w rows more news x dx (i + 1))) s { s with heap := h', toks := tk } := by
  refine TurnEnd.mk (nx := Mine.avoid _ I) F N (sub _ List.mem_cons_self fun e => hI _ b2 e.symm) (fun q hq => (avoid_of hq).1) (fun q hq => (avoid_of hq).2) ⟨hfree, d', ?_, ?_, ?_⟩
  · rw [List.take_succ_eq_append_getElem hi, madeF_snoc, ← ho]
    exact al.avoid (hI _ b1) (hI _ b2) fun e' => ne _ List.mem_cons_self e'.symm
  · exact fun q hq => avoid_mem (sub _ (List.mem_cons_of_mem _ (hsub q hq)) (hdx q hq)) (hI _ (hsub q hq))
  · exact fun q hq => ne _ (List.mem_cons_of_mem _ (hsub q hq))
theorem UpdF.of {d : Addr} {o o' : Obj} {l : List (Addr × Obj)} {g : Obj → List (Addr × Obj)} (U : UpdF d o l g) {q : Addr × Obj} (h : q ∈ g o') : q = (d, o') ∨ (q ∈ l ∧ q.1 ≠ d) := by
  induction U with
  | head hr =>
    rcases List.mem_cons.mp h with rfl | h
    · exact .inl rfl
    · exact .inr ⟨List.mem_cons_of_mem _ h, hr _ h⟩
  | tail hp _ ih =>
    rcases List.mem_cons.mp h with rfl | h
    · exact .inr ⟨List.mem_cons_self, hp⟩
    · exact (ih h).imp id fun x => ⟨List.mem_cons_of_mem _ x.1, x.2⟩
def Hold (P : Prop) : Prop := P
end Mine
namespace Mine
theorem range_facts {d : Int} (h0 : 0 ≤ d) (h1 : d < 6) : Builtin.Range.small 0 (2 + d) 1 = true ∧ Builtin.Range.rangeSize 0 (2 + d) 1 = (((2 + d).toNat : Nat) : Int) := by
  have : d = 0 ∨ d = 1 ∨ d = 2 ∨ d = 3 ∨ d = 4 ∨ d = 5 := by omega
  rcases this with rfl | rfl | rfl | rfl | rfl | rfl <;> exact ⟨by decide +kernel, by decide +kernel⟩
section
variable {prog : Program} {w : World} {A : Around} {E : Value → Shared → Prop} {s : Shared} {env : Env} {h₀ : Heap}
theorem iter_range {x : Str} {px : Pos} {body : List Stmt} {Q : Flow → Shared → Prop} {r : Addr} {b₀ : Int} {n : Nat} {t₀ u₀ v₀ : Tok} {m₀ : Str → Option Value} {news : List (Addr × Obj)} (free : List Str) (J : Nat → (Str → Option Value) → List (Addr × Obj) → Prop)
    (hh : A.handled = none) (hx : env.kindOf x = some .local) (hp : (env.scope.kind == .class || (env.scope.kind == .module && env.locals != env.globals)) = false)
    (hr : IsRange s.heap r 0 b₀ 1 t₀ u₀ v₀) (hsmall : Builtin.Range.small 0 b₀ 1 = true) (hsz : Builtin.Range.rangeSize 0 b₀ 1 = (n : Int))
    (F : Fr h₀ env.locals s.heap m₀) (N : News h₀ env.locals s.heap news) (hj : J 0 m₀ news)
    (step : ∀ i t u nx I oI h tk, i < n → J i (frM free u m₀) nx → (∀ p ∈ nx, p.1 ≠ I) → Fr h₀ env.locals h (fun y => if y = x then some (.int (i : Int) t) else frM free u m₀ y) → News h₀ env.locals h ((I, oI) :: nx) →
      wpAny (model prog w) A (execs body env) (TurnPost h₀ env.locals I oI (TurnJ free m₀ (J (i + 1))) { s with heap := h, toks := tk } Q) (fun _ _ => False) { s with heap := h, toks := tk })
    (done : ∀ h' tk u nx, Fr h₀ env.locals h' (frM free u m₀) → News h₀ env.locals h' nx → J n (frM free u m₀) nx → Q .next { s with heap := h', toks := tk }) :
    wpAny (model prog w) A (pyIter (.ref r)) (fun it s₂ => codeAny (model prog w) A (.forLoop (.Name x px) it body [] env) (fun r s' => match r with | .ok f => Q f s' | .error _ => False) s₂) E s := by
  refine wpAny_pyIter_range hr hsmall ?_
  refine code_loop (h₀ := h₀) (m := m₀) (news := news) (Walks.range hh s.heap.objs.size 0 1 n) (fun _ _ x => ⟨_, x⟩) (Nat.ne_of_gt F.ns.lt) (next_is_new F) (fun i => TurnJ free m₀ (J i)) ?_ (fun p hp => Nat.ne_of_lt (Heap.lt_size (N p hp).1)) (by show IsRangeIter _ _ _ _ _; rw [hsz]; simpa using Heap.get?_push_size _ rfl) (F.push _)
    (fun p hp => ⟨Heap.get?_push_of_some _ (N p hp).1, (N p hp).2⟩) ⟨fun _ _ => rfl, hj⟩ ?_ ?_
  · intro i h h' o m' nw x e e' _ _ _
    have x' : h.get? s.heap.objs.size = _ := x
    rw [e] at x'
    cases x'
    exact e'
  · rintro i v m₁ nx oI h tk hi ⟨t, rfl⟩ ⟨hm, hJ⟩ hn F₁ N₁ _
    rw [frM_eq hm] at F₁ hJ
    show wpAny _ _ (pure ()) _ _ _
    refine wpAny_pure (wpAny_assign_Name (wpAny_storeName_local hx F₁.ns (fun h₂ hn₂ hs₂ => ?_) hp))
    have e0 : (0 : Int) + (i : Int) * 1 = i := by omega
    rw [e0] at hn₂
    refine wpAny_mono (step i t m₁ nx _ oI h₂ _ hi hJ hn (F₁.set hn₂ hs₂) (N₁.set hs₂)) (fun f s₂ h₃ => ?_) fun _ _ x => x
    have fin : TurnEnd h₀ env.locals s.heap.objs.size oI (TurnJ free m₀ (J (i + 1))) { s with heap := h₂, toks := tk + 1 } s₂ → TurnEnd h₀ env.locals s.heap.objs.size oI (TurnJ free m₀ (J (i + 1))) { s with heap := s.heap.push { cls := .type "range_iterator", data := .fields #[rawInt 0, rawInt (Builtin.Range.rangeSize 0 b₀ 1), rawInt 1] } } s₂ := by
      rintro ⟨h₉, tk₃, m₃, nx₃, all, rfl, r⟩
      exact ⟨h₉, tk₃, m₃, nx₃, all, rfl, r⟩
    cases f with
    | ret v => exact h₃
    | brk => exact h₃
    | cont => exact fin h₃
    | next => exact fin h₃
  · rintro h' tk m' nx F' N' ⟨hm, hJ⟩
    rw [frM_eq hm] at F' hJ
    exact done h' tk m' nx F' N' hJ
end
/-- what the loop of rows keeps -/
def RowsJ (lr b l : Addr) (base : List (Addr × Obj)) (i : Nat) (_m : Str → Option Value) (nx : List (Addr × Obj)) : Prop :=
  ∃ rs n k tb nb ps rows tl, nx = (lr, PySem.W.listOf (List.toArray rs) n) :: (b, PySem.W.listOf #[.ref l, .int k tb] nb) :: tl ∧ PairsAre tl rs ps ∧ RowsAre ps rows ∧ rows.length = i ∧ 0 ≤ k ∧ k ≤ 1 + 2 * (i : Int) ∧ (∀ q ∈ tl, q.1 ≠ lr) ∧ (∀ q ∈ tl, q.1 ≠ b) ∧ (∀ q ∈ base, q ∈ tl) ∧ (@Ne Nat lr b) ∧ (@Ne Nat l b)
theorem rows_turn {h₀ h' : Heap} {L I lr b l D : Addr} {oI : Obj} {s : Shared} {tk n n' c i : Nat} {free : List Str} {m₀ m' : Str → Option Value} {tl base : List (Addr × Obj)} {rs : List Value} {ps : List (Value × Value)} {rows : List (Str × Option Int)} {k k' : Int} {tb tb' t : Tok} {nb nb' : Nat} {ki : Str} {v : Value} {o : Option Int}
    (F : Fr h₀ L h' m') (N : News h₀ L h' ((D, ({ cls := .type "tuple", data := .seq #[.str ki t, v] c } : Obj)) :: (I, oI) :: (lr, PySem.W.listOf (rs.toArray.push (.ref D)) n') :: (b, PySem.W.listOf #[.ref l, .int k' tb'] nb') :: tl))
    (hDI : D ≠ I) (hDl : D ≠ lr) (hDb : D ≠ b) (hP : PairsAre tl rs ps) (hR : RowsAre ps rows) (hi : rows.length = i) (h0 : 0 ≤ k') (h1 : k' ≤ 1 + 2 * ((i + 1 : Nat) : Int)) (h2 : ∀ q ∈ tl, q.1 ≠ lr) (h3 : ∀ q ∈ tl, q.1 ≠ b) (h4 : ∀ q ∈ base, q ∈ tl) (h5 : @Ne Nat lr b) (h6 : @Ne Nat l b)
    (hI : ∀ q ∈ (lr, PySem.W.listOf (List.toArray rs) n) :: (b, PySem.W.listOf #[.ref l, .int k tb] nb) :: tl, q.1 ≠ I) (hk : ki ∈ kinds) (ht : Told v o) (hfree : ∀ z, free.contains z = false → m' z = m₀ z) :
    TurnEnd h₀ L I oI (TurnJ free m₀ (RowsJ lr b l base (i + 1))) s { s with heap := h', toks := tk } := by
  refine TurnEnd.mk (nx := (lr, PySem.W.listOf (List.toArray (rs ++ [.ref D])) n') :: (b, PySem.W.listOf #[.ref l, .int k' tb'] nb') :: (D, ({ cls := .type "tuple", data := .seq #[.str ki t, v] c } : Obj)) :: tl) F N ?_ ?_ ?_ ⟨hfree, ?_⟩
  · simp
  · intro q hq
    simp only [List.mem_cons] at hq
    rcases hq with rfl | rfl | rfl | hq
    · simp
    · simp
    · simp
    · simp [hq]
  · intro q hq
    simp only [List.mem_cons] at hq
    rcases hq with rfl | rfl | rfl | hq
    · exact hI (lr, PySem.W.listOf (List.toArray rs) n) (by simp)
    · exact hI (b, PySem.W.listOf #[.ref l, .int k tb] nb) (by simp)
    · exact hDI
    · exact hI _ (by simp [hq])
  · refine ⟨rs ++ [.ref D], n', k', tb', nb', ps ++ [(.str ki t, v)], rows ++ [(ki, o)], _, rfl, (hP.mono fun q hq => List.mem_cons_of_mem _ hq).append (.cons List.mem_cons_self .nil), hR.append (.cons hk ht .nil), by rw [List.length_append, hi]; rfl, h0, h1, ?_, ?_, fun q hq => List.mem_cons_of_mem _ (h4 q hq), h5, h6⟩
    · intro q hq
      rcases List.mem_cons.mp hq with rfl | hq
      · exact hDl
      · exact h2 q hq
    · intro q hq
      rcases List.mem_cons.mp hq with rfl | hq
      · exact hDb
      · exact h3 q hq
end Mine
namespace Mine
def oOf : Value → Option Int
  | .int i _ => some i
  | _ => none
theorem Told.oOf {v : Value} {o : Option Int} (h : Told v o) : o = Mine.oOf v := by cases h <;> rfl
def toRow (p : Str × Value) : Str × Option Int := (p.1, oOf p.2)
def KT (kvs : List (Str × Value)) : Prop := ∀ p ∈ kvs, p.1 ∈ kinds ∧ Told p.2 (oOf p.2)
theorem rows_kp {ps : List (Value × Value)} {rows : List (Str × Option Int)} (h : RowsAre ps rows) : ∃ kvs, KPairs ps kvs ∧ KT kvs ∧ rows = kvs.map toRow := by
  induction h with
  | nil => exact ⟨[], .nil, fun _ h => (nomatch h), rfl⟩
  | @cons k t v o ps rs hk ht _ ih =>
    obtain ⟨kvs, a, b, c⟩ := ih
    have e := ht.oOf
    refine ⟨(k, v) :: kvs, .cons a, fun p hp => ?_, by rw [c, List.map_cons]; simp [toRow, e]⟩
    rcases List.mem_cons.mp hp with rfl | hp
    · exact ⟨hk, e ▸ ht⟩
    · exact b p hp
theorem kp_rows {ps : List (Value × Value)} {kvs : List (Str × Value)} (h : KPairs ps kvs) (hk : KT kvs) : RowsAre ps (kvs.map toRow) := by
  induction h with
  | nil => exact .nil
  | cons _ ih =>
    have := hk _ List.mem_cons_self
    exact .cons this.1 this.2 (ih fun p hp => hk p (List.mem_cons_of_mem _ hp))
theorem kp_perm {ps ps' : List (Value × Value)} (hp : ps'.Perm ps) : ∀ {kvs : List (Str × Value)}, KPairs ps kvs → ∃ kvs', KPairs ps' kvs' ∧ kvs'.Perm kvs := by
  induction hp with
  | nil => intro kvs h; exact ⟨kvs, h, .refl _⟩
  | cons x _ ih =>
    intro kvs h
    cases h with
    | cons h =>
      obtain ⟨k', a, b⟩ := ih h
      exact ⟨_, .cons a, b.cons _⟩
  | swap x y l =>
    intro kvs h
    cases h with
    | cons h => cases h with
      | cons h => exact ⟨_, .cons (.cons h), .swap _ _ _⟩
  | trans _ _ ih1 ih2 =>
    intro kvs h
    obtain ⟨k', a, b⟩ := ih2 h
    obtain ⟨k'', a', b'⟩ := ih1 a
    exact ⟨k'', a', b'.trans b⟩
theorem kp_strs {ps : List (Value × Value)} {kvs : List (Str × Value)} (h : KPairs ps kvs) : StrPairs ps (kvs.map (·.1)) := by
  induction h with
  | nil => exact .nil
  | cons _ ih => exact .cons ih
theorem kp_rev {ps : List (Value × Value)} {kvs : List (Str × Value)} (h : KPairs ps kvs) : KPairs ps.reverse kvs.reverse := by
  induction h with
  | nil => exact .nil
  | cons _ ih => rw [List.reverse_cons, List.reverse_cons]; exact ih.append (.cons .nil)
theorem at_map (k : Str) (v : Value) (z : Str) : ∀ kvs : List (Str × Value), valueAt (kvs.map fun kv => if kv.1 = k then (kv.1, v) else kv) z = if z = k then (valueAt kvs k).map (fun _ => v) else valueAt kvs z
  | [] => by unfold valueAt; by_cases h : z = k <;> simp [h]
  | p :: r => by
    rw [List.map_cons, valueAt_cons, valueAt_cons, valueAt_cons, at_map k v z r]
    by_cases e : p.1 = k
    · by_cases hz : z = k
      · simp [e, hz]
      · have hz' : ¬ k = z := fun q => hz q.symm
        simp [e, hz, hz']
    · by_cases hz : z = k
      · subst hz
        simp [e]
      · simp [e, hz]
theorem at_app (k : Str) (v : Value) (z : Str) : ∀ kvs : List (Str × Value), k ∉ kvs.map (·.1) → valueAt (kvs ++ [(k, v)]) z = if z = k then some v else valueAt kvs z
  | [], _ => by
    rw [List.nil_append, valueAt_cons]
    by_cases e : k = z
    · simp [e]
    · have e' : ¬ z = k := fun q => e q.symm
      simp [e, e']
  | p :: r, h3 => by
    have h4 : p.1 ≠ k := fun q => h3 (by simp [q])
    have h5 : k ∉ r.map (·.1) := fun q => h3 (by rw [List.map_cons]; exact List.mem_cons_of_mem _ q)
    rw [List.cons_append, valueAt_cons, valueAt_cons, at_app k v z r h5]
    by_cases e : p.1 = z
    · have : ¬ z = k := fun q => h4 (e.trans q)
      simp [e, this]
    · simp [e]
theorem at_stored (kvs : List (Str × Value)) (k : Str) (v : Value) (z : Str) : valueAt (stored kvs k v) z = if z = k then some v else valueAt kvs z := by
  unfold stored
  by_cases h : (kvs.any fun kv => decide (kv.1 = k)) = true
  · rw [if_pos h, at_map]
    obtain ⟨x, hx, he⟩ := List.any_eq_true.mp h
    obtain ⟨u, e, _⟩ := valueAt_some (kvs := kvs) (k := k) (List.mem_map.mpr ⟨x, hx, of_decide_eq_true he⟩)
    rw [e]
    rfl
  · rw [if_neg h]
    exact at_app k v z kvs fun hk => by
      obtain ⟨p, hp, e⟩ := List.mem_map.mp hk
      exact h (List.any_eq_true.mpr ⟨p, hp, decide_eq_true e⟩)
/-- a dict's times, each later by a number -/
def lookF (kvs : List (Str × Value)) (m : Int) : Str → Option Int := fun k => (valueAt kvs k).bind fun v => (oOf v).map (· + m)
theorem made_look (m : Int) : ∀ (kvs acc : List (Str × Value)), (kvs.map toRow).foldl (fun f r => updF f r.1 (r.2.map (· + m))) (lookF acc m) = lookF (merged acc kvs) m
  | [], _ => rfl
  | p :: r, acc => by
    rw [List.map_cons, List.foldl_cons]
    have e : updF (lookF acc m) (toRow p).1 ((toRow p).2.map (· + m)) = lookF (stored acc p.1 p.2) m := by
      funext z
      unfold updF lookF toRow
      rw [at_stored]
      by_cases h : z = p.1 <;> simp [h]
    rw [e]
    exact made_look m r (stored acc p.1 p.2)
theorem madeF_look (kvs : List (Str × Value)) (m : Int) : madeF (kvs.map toRow) m = lookF (merged [] kvs) m := by
  unfold madeF
  rw [← made_look m kvs []]
  rfl
theorem at_perm {kvs kvs' : List (Str × Value)} (h : kvs'.Perm kvs) (hn : (kvs.map (·.1)).Nodup) (k : Str) : valueAt kvs' k = valueAt kvs k := by
  have hn' : (kvs'.map (·.1)).Nodup := (h.map (·.1)).nodup_iff.mpr hn
  by_cases hk : k ∈ kvs.map (·.1)
  · obtain ⟨v, e, hm⟩ := valueAt_some hk
    rw [e]
    exact valueAt_mem hn' (h.mem_iff.mpr hm)
  · rw [valueAt_none hk, valueAt_none fun q => hk ((h.map (·.1)).mem_iff.mp q)]
theorem madeF_perm {kvs kvs' : List (Str × Value)} (h : kvs'.Perm kvs) (hn : (kvs.map (·.1)).Nodup) (m : Int) : madeF (kvs'.map toRow) m = lookF kvs m := by
  have hn' : (kvs'.map (·.1)).Nodup := (h.map (·.1)).nodup_iff.mpr hn
  rw [madeF_look, merged_nil_of_nodup _ hn']
  funext k
  unfold lookF
  rw [at_perm h hn]
theorem KT.merged {kvs : List (Str × Value)} (h : KT kvs) : ∀ {acc : List (Str × Value)}, KT acc → KT (PySem.merged acc kvs) := by
  induction kvs with
  | nil => exact fun h => h
  | cons p r ih =>
    intro acc ha
    refine ih (fun q hq => h q (List.mem_cons_of_mem _ hq)) (acc := stored acc p.1 p.2) ?_
    intro q hq
    unfold stored at hq
    split at hq
    · obtain ⟨x, hx, rfl⟩ := List.mem_map.mp hq
      split
      · rename_i e
        have := h p List.mem_cons_self
        exact ⟨by rw [e]; exact this.1, this.2⟩
      · exact ha x hx
    · rcases List.mem_append.mp hq with hq | hq
      · exact ha q hq
      · rw [List.mem_singleton.mp hq]; exact h p List.mem_cons_self
end Mine
namespace Mine
theorem rows_kt {kvs : List (Str × Value)} {ps : List (Value × Value)} (h : KPairs ps kvs) : KPairs ps kvs := h
theorem isdict_nodup {prog : Program} {w : World} {o : Obj} {kvs : List (Str × Value)} (h : o.IsDictOf (PySem.strKind prog w) kvs) : (kvs.map (·.1)).Nodup := by
  obtain ⟨es, ep, hex, hdat, hko, hpr, hnd⟩ := h
  exact hnd
/-- what the comprehension over last keeps -/
def LastJ (M : List (Str × Value)) (base : List (Addr × Obj)) (i : Nat) (ys : List Value) (nx : List (Addr × Obj)) : Prop :=
  ∃ ps, PairsAre nx ys ps ∧ KPairs ps (M.take i) ∧ ∀ q ∈ base, q ∈ nx
theorem News.drop2 {h₀ h : Heap} {L : Addr} {p q : Addr × Obj} {r : List (Addr × Obj)} (N : News h₀ L h (p :: q :: r)) : News h₀ L h (p :: r) := News.sub N fun x hx => by
  rcases List.mem_cons.mp hx with rfl | hx
  · exact List.mem_cons_self
  · exact List.mem_cons_of_mem _ (List.mem_cons_of_mem _ hx)
theorem cells4 {h₀ h : Heap} {L : Addr} {nx tl : List (Addr × Obj)} (N : News h₀ L h nx) (hs : ∀ q ∈ tl, q ∈ nx) {c1 c2 c3 c4 : Addr} {o1 o2 o3 o4 : Obj} {v1 v2 v3 v4 : Option Value}
    (m4 : (c4, o4) ∈ tl) (m3 : (c3, o3) ∈ tl) (m2 : (c2, o2) ∈ tl) (m1 : (c1, o1) ∈ tl) (d4 : o4.data = .cell v4) (d3 : o3.data = .cell v3) (d2 : o2.data = .cell v2) (d1 : o1.data = .cell v1) :
    ∃ tl' : List (Addr × Obj), (∀ q ∈ tl', q ∈ tl) ∧ (∀ q ∈ tl', q.1 ≠ c1) ∧ (∀ q ∈ tl', q.1 ≠ c2) ∧ (∀ q ∈ tl', q.1 ≠ c3) ∧ (∀ q ∈ tl', q.1 ≠ c4) ∧ ∀ q ∈ tl, (∀ v, q.2.data ≠ .cell v) → q ∈ tl' := by
  refine ⟨tl.filter fun q => decide (q.1 ≠ c1 ∧ q.1 ≠ c2 ∧ q.1 ≠ c3 ∧ q.1 ≠ c4), fun q hq => (List.mem_filter.mp hq).1, ?_, ?_, ?_, ?_, ?_⟩
  · exact fun q hq => (of_decide_eq_true (List.mem_filter.mp hq).2).1
  · exact fun q hq => (of_decide_eq_true (List.mem_filter.mp hq).2).2.1
  · exact fun q hq => (of_decide_eq_true (List.mem_filter.mp hq).2).2.2.1
  · exact fun q hq => (of_decide_eq_true (List.mem_filter.mp hq).2).2.2.2
  · intro q hq hd
    have key : ∀ {c : Addr} {o : Obj} {v : Option Value}, (c, o) ∈ tl → o.data = .cell v → q.1 ≠ c := fun {c o v} hm hdc e => by
      have a := (N _ (hs _ hq)).1
      have b := (N _ (hs _ hm)).1
      rw [e] at a
      have := a.symm.trans b
      injection this with this
      exact hd v (this ▸ hdc)
    exact List.mem_filter.mpr ⟨hq, decide_eq_true ⟨key m1 d1, key m2 d2, key m3 d3, key m4 d4⟩⟩
theorem PairsAre.keep {tl tl' : List (Addr × Obj)} {vs : List Value} {ps : List (Value × Value)} (h : PairsAre tl vs ps) (hk : ∀ q ∈ tl, (∀ v, q.2.data ≠ .cell v) → q ∈ tl') : PairsAre tl' vs ps := by
  induction h with
  | nil => exact .nil
  | cons hm _ ih => exact .cons (hk _ hm fun v e => by cases e) ih
theorem news_cells {h₀ h : Heap} {L : Addr} {tl tl' : List (Addr × Obj)} {p q c1 c2 c3 c4 : Addr × Obj} (N : News h₀ L h (p :: q :: tl)) (m4 : c4 ∈ tl) (m3 : c3 ∈ tl) (m2 : c2 ∈ tl) (m1 : c1 ∈ tl) (hs : ∀ x ∈ tl', x ∈ tl) :
    News h₀ L h (p :: q :: c4 :: c3 :: c2 :: c1 :: tl') := News.sub N fun x hx => by
  simp only [List.mem_cons] at hx ⊢
  rcases hx with rfl | rfl | rfl | rfl | rfl | rfl | hx
  · exact .inl rfl
  · exact .inr (.inl rfl)
  · exact .inr (.inr m4)
  · exact .inr (.inr m3)
  · exact .inr (.inr m2)
  · exact .inr (.inr m1)
  · exact .inr (.inr (hs _ hx))
end Mine
namespace Mine
/-- sorted lists with the same members are one -/
theorem lex_unique {ps qs : List (Int × Int)} (hp : ps.Perm qs) (h1 : ps.Pairwise lexlt) (h2 : qs.Pairwise lexlt) : ps = qs :=
  List.Perm.eq_of_pairwise (le := lexlt) (fun a b _ _ h k => absurd (lexlt_tr h k) (lexlt_irr a)) h1 h2 hp
theorem IsDue.unique {f : Str → Option Int} {now : Int} {ds es : List Str} (h : IsDue f now ds) (k : IsDue f now es) : ds = es := by
  obtain ⟨ps, a, b, rfl⟩ := h
  obtain ⟨qs, c, d, rfl⟩ := k
  rw [lex_unique (a.trans c.symm) b d]
def shiftF (f : Str → Option Int) (m : Int) : Str → Option Int := fun k => (f k).map (· + m)
theorem lookF_shift (kvs : List (Str × Value)) (m : Int) : lookF kvs m = shiftF (lookF kvs 0) m := by
  funext k
  unfold lookF shiftF
  cases h0 : valueAt kvs k with
  | none => simp [h0]
  | some v => cases h : oOf v <;> simp [h0, h]
theorem shiftF_zero (f : Str → Option Int) : shiftF f 0 = f := by
  funext k
  unfold shiftF
  cases f k <;> simp
theorem due_shift (f : Str → Option Int) (m now : Int) (n : Nat) : duePairs (shiftF f m) (now + m) n = (duePairs f now n).map fun p => (p.1 + m, p.2) := by
  induction n with
  | zero => rfl
  | succ n ih =>
    rw [duePairs_succ, duePairs_succ, ih, List.map_append]
    congr 1
    unfold shiftF
    cases f (kindAt n) with
    | none => rfl
    | some t =>
      by_cases h : t ≤ now
      · have h' : t + m ≤ now + m := by omega
        simp [h]
      · have h' : ¬ t + m ≤ now + m := by omega
        simp [h]
theorem IsDue.shift {f : Str → Option Int} {now : Int} {ds : List Str} (h : IsDue f now ds) (m : Int) : IsDue (shiftF f m) (now + m) ds := by
  obtain ⟨ps, a, b, rfl⟩ := h
  refine ⟨ps.map fun p => (p.1 + m, p.2), ?_, ?_, ?_⟩
  · rw [due_shift]; exact a.map _
  · rw [List.pairwise_map]
    exact b.imp fun h => by unfold lexlt at *; dsimp only; omega
  · rw [List.map_map]; rfl
theorem remF_shift (f : Str → Option Int) (m : Int) (ds : List Str) : remF (shiftF f m) ds = shiftF (remF f ds) m := by
  funext k
  unfold remF shiftF
  by_cases h : k ∈ ds <;> simp [h]
theorem IsDue.iff {f : Str → Option Int} {now : Int} {ds : List Str} (h : IsDue f now ds) {k : Str} : k ∈ ds ↔ ∃ j, j < 6 ∧ k = kindAt j ∧ ∃ t, f k = some t ∧ t ≤ now := by
  obtain ⟨ps, a, _, rfl⟩ := h
  constructor
  · intro hk
    obtain ⟨p, hp, rfl⟩ := List.mem_map.mp hk
    obtain ⟨j, hj, e1, e2, e3⟩ := duePairs_mem.mp (a.mem_iff.mp hp)
    rw [e3]
    exact ⟨j, hj, by simp, p.1, by simpa using e1, e2⟩
  · rintro ⟨j, hj, rfl, t, e1, e2⟩
    exact List.mem_map.mpr ⟨(t, (j : Int)), a.mem_iff.mpr (duePairs_mem.mpr ⟨j, hj, e1, e2, rfl⟩), by simp⟩
/-- nothing is due after the due is taken -/
theorem due_none {f : Str → Option Int} {now : Int} {ds es : List Str} (h : IsDue f now ds) (k : IsDue (remF f ds) now es) : es = [] := by
  refine List.eq_nil_iff_forall_not_mem.mpr fun z hz => ?_
  obtain ⟨j, hj, e, t, e1, e2⟩ := k.iff.mp hz
  unfold remF at e1
  by_cases hm : z ∈ ds
  · simp [hm] at e1
  · simp only [hm, if_false] at e1
    exact hm (h.iff.mpr ⟨j, hj, e, t, e1, e2⟩)
theorem due_left {f : Str → Option Int} {now : Int} {ds : List Str} (h : IsDue f now ds) {j : Nat} (hj : j < 6) {t : Int} (e : remF f ds (kindAt j) = some t) : f (kindAt j) = some t ∧ now < t := by
  unfold remF at e
  by_cases hm : kindAt j ∈ ds
  · simp [hm] at e
  · simp only [hm, if_false] at e
    refine ⟨e, ?_⟩
    by_cases ht : t ≤ now
    · exact absurd (h.iff.mpr ⟨j, hj, rfl, t, e, ht⟩) hm
    · omega
/-- what is taken at the first moment and then at the second is what is taken at the second -/
theorem due_split {f : Str → Option Int} {a b : Int} (hab : a ≤ b) {ds es fs : List Str} (h : IsDue f a ds) (k : IsDue (remF f ds) b es) (l : IsDue f b fs) : ds ++ es = fs := by
  have hmem : ∀ j, j < 6 → (kindAt j ∈ ds ↔ ∃ t, f (kindAt j) = some t ∧ t ≤ a) := fun j hj => by
    rw [h.iff]
    constructor
    · rintro ⟨i, _, e, r⟩; exact r
    · exact fun r => ⟨j, hj, rfl, r⟩
  obtain ⟨ps, p1, p2, rfl⟩ := h
  obtain ⟨qs, q1, q2, rfl⟩ := k
  obtain ⟨rs, r1, r2, rfl⟩ := l
  rw [← List.map_append]
  congr 1
  have hq : ∀ q ∈ qs, a < q.1 := fun q hqm => by
    obtain ⟨j, hj, e1, e2, e3⟩ := duePairs_mem.mp (q1.mem_iff.mp hqm)
    unfold remF at e1
    by_cases hm : kindAt j ∈ ps.map fun p => kindAt p.2.toNat
    · simp only [hm, if_true] at e1; cases e1
    · simp only [hm, if_false] at e1
      by_cases ht : q.1 ≤ a
      · exact absurd ((hmem j hj).mpr ⟨_, e1, ht⟩) hm
      · omega
  have hpa : ∀ p ∈ ps, p.1 ≤ a := fun p hp => by
    obtain ⟨j, hj, e1, e2, e3⟩ := duePairs_mem.mp (p1.mem_iff.mp hp)
    exact e2
  refine lex_unique ?_ (List.pairwise_append.mpr ⟨p2, q2, fun p hp q hq' => .inl (by have := hpa p hp; have := hq q hq'; omega)⟩) r2
  have nd : (ps ++ qs).Nodup := by
    refine List.nodup_append.mpr ⟨p1.nodup_iff.mpr (duePairs_nodup _ _ _), q1.nodup_iff.mpr (duePairs_nodup _ _ _), ?_⟩
    intro p hp q hq' e
    have := hpa p hp
    have := hq q hq'
    rw [← e] at this
    omega
  refine (List.perm_ext_iff_of_nodup nd (r1.nodup_iff.mpr (duePairs_nodup _ _ _))).mpr fun p => ?_
  rw [List.mem_append, p1.mem_iff, q1.mem_iff, r1.mem_iff, duePairs_mem, duePairs_mem, duePairs_mem]
  constructor
  · rintro (⟨j, hj, e1, e2, e3⟩ | ⟨j, hj, e1, e2, e3⟩)
    · exact ⟨j, hj, e1, by omega, e3⟩
    · refine ⟨j, hj, ?_, e2, e3⟩
      unfold remF at e1
      by_cases hm : kindAt j ∈ ps.map fun p => kindAt p.2.toNat
      · simp only [hm, if_true] at e1; cases e1
      · simpa only [hm, if_false] using e1
  · rintro ⟨j, hj, e1, e2, e3⟩
    by_cases ht : p.1 ≤ a
    · exact .inl ⟨j, hj, e1, ht, e3⟩
    · refine .inr ⟨j, hj, ?_, e2, e3⟩
      unfold remF
      have hm : ¬ kindAt j ∈ ps.map fun p => kindAt p.2.toNat := fun hm => by
        obtain ⟨t, e4, e5⟩ := (hmem j hj).mp hm
        rw [e1] at e4
        cases e4
        exact ht e5
      simp only [hm, if_false]
      exact e1
end Mine
namespace Mine
theorem fm_congr {α β : Type} {f g : α → Option β} : ∀ {l : List α}, (∀ a ∈ l, f a = g a) → l.filterMap f = l.filterMap g
  | [], _ => rfl
  | a :: l, h => by rw [List.filterMap_cons, List.filterMap_cons, h a List.mem_cons_self, fm_congr fun b hb => h b (List.mem_cons_of_mem _ hb)]
theorem perm_support {H : Str → Option Int} {K kk : List Str} (hK : K.Nodup) (hk : kk.Nodup) (hs : ∀ k ∈ K, k ∈ kk) (hn : ∀ k ∈ kk, k ∉ K → H k = none) : (kk.filterMap H).Perm (K.filterMap H) := by
  have e : kk.filterMap H = (kk.filter fun k => decide (k ∈ K)).filterMap H := by
    rw [List.filterMap_filter]
    refine fm_congr fun k hkk => ?_
    by_cases h : k ∈ K
    · simp [h]
    · simp [h, hn k hkk h]
  rw [e]
  refine List.Perm.filterMap _ ((List.perm_ext_iff_of_nodup (hk.filter _) hK).mpr fun k => ?_)
  rw [List.mem_filter]
  constructor
  · exact fun h => of_decide_eq_true h.2
  · exact fun h => ⟨hs k h, decide_eq_true h⟩
/-- the times that are left, in the kinds' order -/
def leftL (f : Str → Option Int) (n : Nat) : List Int := (List.range n).filterMap fun j => f (kindAt j)
theorem leftL_succ (f : Str → Option Int) (n : Nat) : leftL f (n + 1) = leftL f n ++ (match f (kindAt n) with | some t => [t] | none => []) := by
  unfold leftL
  rw [List.range_succ, List.filterMap_append]
  congr 1
  simp only [List.filterMap_cons, List.filterMap_nil]
  cases f (kindAt n) <;> rfl
theorem leftL_mem {f : Str → Option Int} {n : Nat} {t : Int} : t ∈ leftL f n ↔ ∃ j, j < n ∧ f (kindAt j) = some t := by
  unfold leftL
  rw [List.mem_filterMap]
  constructor
  · rintro ⟨j, hj, e⟩; exact ⟨j, List.mem_range.mp hj, e⟩
  · rintro ⟨j, hj, e⟩; exact ⟨j, List.mem_range.mpr hj, e⟩
theorem leftL_len (f : Str → Option Int) (n : Nat) : (leftL f n).length ≤ n := by
  have := List.length_filterMap_le (fun j => f (kindAt j)) (List.range n)
  rwa [List.length_range] at this
theorem kinds_map : kinds = (List.range 6).map kindAt := by decide +kernel
theorem leftL_kinds (f : Str → Option Int) : leftL f 6 = kinds.filterMap f := by
  rw [kinds_map, List.filterMap_map]; rfl
/-- what the last comprehension makes of a row -/
def lateOf (second off : Int) (r : Str × Option Int) : Option Int := match r.2 with
  | some t => if t > second then some (t + off) else none
  | none => none
theorem left_perm {M kvs : List (Str × Value)} (hp : kvs.Perm M) (hn : (M.map (·.1)).Nodup) (hk : KT M) {f : Str → Option Int} {second off : Int}
    (hf : ∀ k ∈ kinds, f k = (lookF M 0 k).bind fun t => if t > second then some (t + off) else none) :
    (leftL f 6).Perm ((kvs.map toRow).filterMap (lateOf second off)) := by
  have hn' : (kvs.map (·.1)).Nodup := (hp.map (·.1)).nodup_iff.mpr hn
  rw [leftL_kinds]
  refine (perm_support (K := kvs.map (·.1)) hn' kinds_nodup (fun k h => ?_) fun k hkk h => ?_).trans ?_
  · obtain ⟨p, hpm, rfl⟩ := List.mem_map.mp h
    exact (hk p (hp.mem_iff.mp hpm)).1
  · rw [hf k hkk]
    unfold lookF
    rw [valueAt_none fun q => h ((hp.map (·.1)).mem_iff.mpr q)]
    rfl
  · rw [List.filterMap_map, List.filterMap_map]
    refine List.Perm.of_eq (fm_congr fun p hpm => ?_)
    have hpM := hp.mem_iff.mp hpm
    show f p.1 = lateOf second off (toRow p)
    rw [hf _ (hk p hpM).1]
    unfold lookF
    rw [valueAt_mem (v := p.2) hn hpM]
    unfold lateOf toRow
    cases h : oOf p.2 <;> simp [h]
theorem due_rest {g : Str → Option Int} {a b off : Int} (hab : a ≤ b) {ds es : List Str} (h : IsDue (shiftF g off) (a + off) ds) (k : IsDue (remF (shiftF g off) ds) (b + off) es) :
    ∀ z ∈ kinds, remF (remF (shiftF g off) ds) es z = (g z).bind fun t => if t > b then some (t + off) else none := by
  intro z hz
  obtain ⟨j, hj, rfl⟩ := kindAt_of_mem hz
  unfold remF
  by_cases h1 : kindAt j ∈ es
  · rw [if_pos h1]
    obtain ⟨i, hi, e, t, e1, e2⟩ := k.iff.mp h1
    unfold remF at e1
    by_cases h2 : kindAt j ∈ ds
    · simp [h2] at e1
    · simp only [h2, if_false] at e1
      unfold shiftF at e1
      cases hg : g (kindAt j) with
      | none => rfl
      | some u =>
        rw [hg] at e1
        simp only [Option.map_some, Option.some.injEq] at e1
        have : ¬ u > b := by omega
        simp [this]
  · rw [if_neg h1]
    by_cases h2 : kindAt j ∈ ds
    · rw [if_pos h2]
      obtain ⟨i, hi, e, t, e1, e2⟩ := h.iff.mp h2
      unfold shiftF at e1
      cases hg : g (kindAt j) with
      | none => rfl
      | some u =>
        rw [hg] at e1
        simp only [Option.map_some, Option.some.injEq] at e1
        have : ¬ u > b := by omega
        simp [this]
    · rw [if_neg h2]
      cases hg : g (kindAt j) with
      | none => unfold shiftF; rw [hg]; rfl
      | some u =>
        have hs : shiftF g off (kindAt j) = some (u + off) := by unfold shiftF; rw [hg]; rfl
        rw [hs]
        by_cases hu : u > b
        · simp [hu]
        · exact absurd (k.iff.mpr ⟨j, hj, rfl, u + off, by unfold remF; rw [if_neg h2, hs], by omega⟩) h1
end Mine
namespace Mine
theorem ne_obj {h₀ h : Heap} {L a b : Addr} {o o' : Obj} {nx : List (Addr × Obj)} (N : News h₀ L h nx) (ha : (a, o) ∈ nx) (hb : (b, o') ∈ nx) (hne : o.data ≠ o'.data) : a ≠ b := fun e => by
  have x := (N _ ha).1
  have y := (N _ hb).1
  dsimp only at x y
  rw [e, y] at x
  injection x with x
  exact hne (by rw [x])
/-- what is written up of the turns that are over -/
inductive EveryAre (e : Addr) (nx : List (Addr × Obj)) (D1 D2 : List Str) : List Value → Prop
  | nil : EveryAre e nx D1 D2 []
  | cons {t a b : Addr} {va vb : List Value} {n1 n2 c : Nat} {vs : List Value} : (t, ({ cls := .type "tuple", data := .seq #[.ref a, .ref b] c } : Obj)) ∈ nx → (a, PySem.W.listOf (List.toArray va) n1) ∈ nx → StrsAre va D1 → (b, PySem.W.listOf (List.toArray vb) n2) ∈ nx → StrsAre vb D2 → a ≠ e → b ≠ e →
      EveryAre e nx D1 D2 vs → EveryAre e nx D1 D2 (.ref t :: vs)
theorem EveryAre.mono {e : Addr} {nx nx' : List (Addr × Obj)} {D1 D2 : List Str} {vs : List Value} (h : EveryAre e nx D1 D2 vs) (hs : ∀ q ∈ nx, (∃ its n, q.2.data = .seq its n) → (q.1 = e → q.2.cls = .type "tuple") → q ∈ nx') : EveryAre e nx' D1 D2 vs := by
  induction h with
  | nil => exact .nil
  | cons h1 h2 h3 h4 h5 h6 h7 _ ih => exact .cons (hs _ h1 ⟨_, _, rfl⟩ fun _ => rfl) (hs _ h2 ⟨_, _, rfl⟩ fun q => absurd q h6) h3 (hs _ h4 ⟨_, _, rfl⟩ fun q => absurd q h7) h5 h6 h7 ih
theorem EveryAre.append {e : Addr} {nx : List (Addr × Obj)} {D1 D2 : List Str} {vs us : List Value} (h : EveryAre e nx D1 D2 vs) (k : EveryAre e nx D1 D2 us) : EveryAre e nx D1 D2 (vs ++ us) := by
  induction h with
  | nil => exact k
  | cons h1 h2 h3 h4 h5 h6 h7 _ ih => exact .cons h1 h2 h3 h4 h5 h6 h7 ih
/-- what the law's loop keeps -/
def LoopJ (prog : Program) (w : World) (X DX Dd : Nat → Addr) (G : Nat → Str → Option Int) (e cA cO : Addr) (bs : List (Addr × Obj)) (D1 D2 : List Str) (i : Nat) (_m : Str → Option Value) (nx : List (Addr × Obj)) : Prop :=
  (∃ es n, (e, PySem.W.listOf (List.toArray es) n) ∈ nx ∧ es.length = i ∧ EveryAre e nx D1 D2 es) ∧ (∀ j, i ≤ j → j < 3 → AlarmAt prog w (X j) (DX j) (Dd j) (G j) nx) ∧ (∀ q ∈ bs, q ∈ nx) ∧
  (∃ o v, (cA, o) ∈ nx ∧ o.data = .cell v) ∧ (∃ o v, (cO, o) ∈ nx ∧ o.data = .cell v)
theorem AlarmAt.objs {prog : Program} {w : World} {x dx d : Addr} {f : Str → Option Int} {nx : List (Addr × Obj)} (h : AlarmAt prog w x dx d f nx) {nx' : List (Addr × Obj)} (hs : ∀ q ∈ nx, (q.1 = x ∨ q.1 = dx ∨ q.1 = d) → ((∃ es n, q.2.data = .dict es n) ∨ q.2.data = .plain) → q ∈ nx') : AlarmAt prog w x dx d f nx' := by
  obtain ⟨t, od, kvs, a, b, c, hod, r⟩ := h
  obtain ⟨es, ep, hex, hdat, hrest⟩ := id hod
  exact ⟨t, od, kvs, hs _ a (.inl rfl) (.inr rfl), hs _ b (.inr (.inl rfl)) (.inl ⟨_, _, rfl⟩), hs _ c (.inr (.inr rfl)) (.inl ⟨_, _, hdat⟩), hod, r⟩
theorem turn_start {prog : Program} {w : World} {h₀ h : Heap} {L I : Addr} {oI : Obj} {X DX Dd : Nat → Addr} {G : Nat → Str → Option Int} {e cA cO : Addr} {bs : List (Addr × Obj)} {D1 D2 : List Str} {i : Nat} {m : Str → Option Value} {nx : List (Addr × Obj)}
    (N : News h₀ L h ((I, oI) :: nx)) (hI : ∀ q ∈ nx, q.1 ≠ I) (J : LoopJ prog w X DX Dd G e cA cO bs D1 D2 i m nx) (hbs : ∀ q ∈ bs, q.1 ≠ cA ∧ q.1 ≠ cO) :
    ∃ R oA vA oO vO es n, oA.data = .cell vA ∧ oO.data = .cell vO ∧ News h₀ L h ((I, oI) :: (cA, oA) :: (cO, oO) :: R) ∧ (∀ q ∈ R, q.1 ≠ I) ∧ (∀ q ∈ R, q.1 ≠ cA) ∧ (∀ q ∈ R, q.1 ≠ cO) ∧ (@Ne Nat cA I) ∧ (@Ne Nat cO I) ∧
      (e, PySem.W.listOf (List.toArray es) n) ∈ R ∧ es.length = i ∧ EveryAre e R D1 D2 es ∧ (∀ j, i ≤ j → j < 3 → AlarmAt prog w (X j) (DX j) (Dd j) (G j) R) ∧ (∀ q ∈ bs, q ∈ R) := by
  obtain ⟨⟨es, n, he, hlen, hE⟩, hA, hb, ⟨oA, vA, hcA, hdA⟩, ⟨oO, vO, hcO, hdO⟩⟩ := J
  have N' : News h₀ L h nx := News.sub N fun q hq => List.mem_cons_of_mem _ hq
  have keep : ∀ q ∈ nx, (∀ v, q.2.data ≠ .cell v) → q ∈ avoid (avoid nx cA) cO := fun q hq hd =>
    avoid_mem (avoid_mem hq (ne_obj N' hq hcA (by rw [hdA]; exact hd _))) (ne_obj N' hq hcO (by rw [hdO]; exact hd _))
  refine ⟨avoid (avoid nx cA) cO, oA, vA, oO, vO, es, n, hdA, hdO, News.sub N fun q hq => ?_, fun q hq => hI q (avoid_of (avoid_of hq).1).1, fun q hq => (avoid_of (avoid_of hq).1).2, fun q hq => (avoid_of hq).2, hI _ hcA, hI _ hcO,
    keep _ he (fun v x => by cases x), hlen, hE.mono (fun q hq hd _ => keep q hq fun v x => (by obtain ⟨its, n, e⟩ := hd; rw [e] at x; cases x)), fun j h1 h2 => (hA j h1 h2).objs fun q hq _ hd => keep q hq fun v x => ?_, fun q hq => avoid_mem (avoid_mem (hb q hq) (hbs q hq).1) (hbs q hq).2⟩
  · simp only [List.mem_cons] at hq ⊢
    rcases hq with rfl | rfl | rfl | hq
    · exact .inl rfl
    · exact .inr hcA
    · exact .inr hcO
    · exact .inr (avoid_of (avoid_of hq).1).1
  · rcases hd with ⟨es, n, e⟩ | e <;> rw [e] at x <;> cases x
end Mine
namespace Mine
def pick3 {α : Type} (a b c : α) (j : Nat) : α := if j = 0 then a else if j = 1 then b else c
theorem static_part {h₀ h : Heap} {L : Addr} {w : World} {l : List (Addr × Obj)} (N : News h₀ L h l) {cA cO e dx1 dx2 dx3 d1 d2 d3 : Addr} {oA oO : Obj} {vA vO : Option Value} {its : Array Value} {n : Nat} {t1 t2 t3 : Tok}
    (mA : (cA, oA) ∈ l) (dA : oA.data = .cell vA) (mO : (cO, oO) ∈ l) (dO : oO.data = .cell vO) (mE : (e, PySem.W.listOf its n) ∈ l) (m1 : (dx1, fieldsT w d1 t1) ∈ l) (m2 : (dx2, fieldsT w d2 t2) ∈ l) (m3 : (dx3, fieldsT w d3 t3) ∈ l) :
    ∃ bs : List (Addr × Obj), (∀ q ∈ bs, q ∈ l) ∧ (∀ q ∈ bs, q.1 ≠ cA ∧ q.1 ≠ cO ∧ q.1 ≠ e ∧ q.1 ≠ dx1 ∧ q.1 ≠ dx2 ∧ q.1 ≠ dx3) ∧ (∀ q ∈ l, (∃ its n, q.2.data = .seq its n) → q.1 ≠ e → q ∈ bs) ∧ (∀ q ∈ l, (∃ v, q.2.data = .cell v) → q.1 ≠ cA → q.1 ≠ cO → q ∈ bs) := by
  refine ⟨l.filter fun q => decide (q.1 ≠ cA ∧ q.1 ≠ cO ∧ q.1 ≠ e ∧ q.1 ≠ dx1 ∧ q.1 ≠ dx2 ∧ q.1 ≠ dx3), fun q hq => (List.mem_filter.mp hq).1, fun q hq => of_decide_eq_true (List.mem_filter.mp hq).2, ?_, ?_⟩
  · rintro q hq ⟨a, b, hd⟩ he
    refine List.mem_filter.mpr ⟨hq, decide_eq_true ⟨ne_obj N hq mA ?_, ne_obj N hq mO ?_, he, ne_obj N hq m1 ?_, ne_obj N hq m2 ?_, ne_obj N hq m3 ?_⟩⟩
    · rw [hd, dA]; intro x; cases x
    · rw [hd, dO]; intro x; cases x
    · rw [hd]; intro x; cases x
    · rw [hd]; intro x; cases x
    · rw [hd]; intro x; cases x
  · rintro q hq ⟨v, hd⟩ h1 h2
    refine List.mem_filter.mpr ⟨hq, decide_eq_true ⟨h1, h2, ne_obj N hq mE ?_, ne_obj N hq m1 ?_, ne_obj N hq m2 ?_, ne_obj N hq m3 ?_⟩⟩
    · rw [hd]; intro x; cases x
    · rw [hd]; intro x; cases x
    · rw [hd]; intro x; cases x
    · rw [hd]; intro x; cases x
theorem due_exists (f : Str → Option Int) (now : Int) : ∃ ds, IsDue f now ds := by
  let le : Int × Int → Int × Int → Bool := fun a b => decide (a = b ∨ lexlt a b)
  refine ⟨_, (duePairs f now 6).mergeSort le, List.mergeSort_perm _ _, ?_, rfl⟩
  have hs : ((duePairs f now 6).mergeSort le).Pairwise fun a b => le a b = true := by
    refine List.pairwise_mergeSort ?_ ?_ _
    · intro a b c h1 h2
      have h1 := of_decide_eq_true h1
      have h2 := of_decide_eq_true h2
      refine decide_eq_true ?_
      rcases h1 with rfl | h1
      · exact h2
      · rcases h2 with rfl | h2
        · exact .inr h1
        · exact .inr (lexlt_tr h1 h2)
    · intro a b
      by_cases h : a = b
      · simp [le, h]
      · rcases lexlt_tot h with h | h <;> simp [le, h]
  have hn : ((duePairs f now 6).mergeSort le).Nodup := (List.mergeSort_perm _ _).nodup_iff.mpr (duePairs_nodup _ _ _)
  exact (hs.and hn).imp fun h => by
    rcases of_decide_eq_true h.1 with e | e
    · exact absurd e h.2
    · exact e
theorem due_of {a b c d : Int} (f : Str → Option Int) (_ : a < b) (_ : c < d) : ∃ ds es, IsDue f a ds ∧ IsDue (remF f ds) (a + c) es := by
  obtain ⟨ds, h⟩ := due_exists f a
  obtain ⟨es, k⟩ := due_exists (remF f ds) (a + c)
  exact ⟨ds, es, h, k⟩
theorem three_al {prog : Program} {w : World} {x1 x2 x3 dx1 dx2 dx3 d1 d2 d3 : Addr} {g : Str → Option Int} {m : Int} {nx : List (Addr × Obj)} (h1 : AlarmAt prog w x1 dx1 d1 (shiftF g 0) nx) (h2 : AlarmAt prog w x2 dx2 d2 (shiftF g 0) nx) (h3 : AlarmAt prog w x3 dx3 d3 (shiftF g m) nx) :
    ∀ j, 0 ≤ j → j < 3 → AlarmAt prog w (pick3 x1 x2 x3 j) (pick3 dx1 dx2 dx3 j) (pick3 d1 d2 d3 j) ((fun j => shiftF g (pick3 0 0 m j)) j) nx := by
  intro j _ hj
  have : j = 0 ∨ j = 1 ∨ j = 2 := by omega
  rcases this with rfl | rfl | rfl
  · exact h1
  · exact h2
  · exact h3
theorem three_pair {x1 x2 x3 P1 P2 P3 : Addr} {m : Int} {u1 u2 u3 : Tok} {k1 k2 k3 : Nat} {bs : List (Addr × Obj)} {i : Nat} {v : Value} (hv : (#[.ref P1, .ref P2, .ref P3] : Array Value)[i]? = some v)
    (h1 : (P1, ({ cls := .type "tuple", data := .seq #[.ref x1, .int 0 u1] k1 } : Obj)) ∈ bs) (h2 : (P2, ({ cls := .type "tuple", data := .seq #[.ref x2, .int 0 u2] k2 } : Obj)) ∈ bs) (h3 : (P3, ({ cls := .type "tuple", data := .seq #[.ref x3, .int m u3] k3 } : Obj)) ∈ bs) :
    i < 3 ∧ ∃ P t c, v = .ref P ∧ (P, ({ cls := .type "tuple", data := .seq #[.ref (pick3 x1 x2 x3 i), .int (pick3 0 0 m i) t] c } : Obj)) ∈ bs := by
  obtain ⟨hi, _⟩ := Array.getElem?_eq_some_iff.mp hv
  have hi3 : i < 3 := hi
  have : i = 0 ∨ i = 1 ∨ i = 2 := by omega
  rcases this with rfl | rfl | rfl
  · cases hv; exact ⟨hi3, _, _, _, rfl, h1⟩
  · cases hv; exact ⟨hi3, _, _, _, rfl, h2⟩
  · cases hv; exact ⟨hi3, _, _, _, rfl, h3⟩
theorem PairsAre.keep2 {tl tl' : List (Addr × Obj)} {vs : List Value} {ps : List (Value × Value)} (h : PairsAre tl vs ps) (hk : ∀ q ∈ tl, (∃ its n, q.2.data = .seq its n) → q ∈ tl') : PairsAre tl' vs ps := by
  induction h with
  | nil => exact .nil
  | cons hm _ ih => exact .cons (hk _ hm ⟨_, _, rfl⟩) ih
end Mine
namespace Mine
/-- the state within a turn of the law's loop -/
structure TurnS (prog : Program) (w : World) (X DX Dd : Nat → Addr) (G : Nat → Str → Option Int) (e cA cO : Addr) (bs : List (Addr × Obj)) (D1 D2 : List Str) (i : Nat) (I : Addr) (oI oA oO : Obj) (es : List Value) (n : Nat) (f : Str → Option Int) (nx : List (Addr × Obj)) : Prop where
  it : (I, oI) ∈ nx
  ca : (cA, oA) ∈ nx
  co : (cO, oO) ∈ nx
  ev : (e, PySem.W.listOf (List.toArray es) n) ∈ nx
  al : AlarmIn prog w (X i) (DX i) f nx
  ea : EveryAre e nx D1 D2 es
  la : ∀ j, i < j → j < 3 → AlarmAt prog w (X j) (DX j) (Dd j) (G j) nx
  st : ∀ q ∈ bs, q ∈ nx
section
variable {prog : Program} {w : World} {X DX Dd : Nat → Addr} {G : Nat → Str → Option Int} {e cA cO : Addr} {bs : List (Addr × Obj)} {D1 D2 : List Str} {i : Nat} {I : Addr} {oI oA oO : Obj} {es : List Value} {n : Nat} {f f' : Str → Option Int} {nx nx' : List (Addr × Obj)}
theorem TurnS.mono (S : TurnS prog w X DX Dd G e cA cO bs D1 D2 i I oI oA oO es n f nx) (hs : ∀ q ∈ nx, q ∈ nx') : TurnS prog w X DX Dd G e cA cO bs D1 D2 i I oI oA oO es n f nx' :=
  ⟨hs _ S.it, hs _ S.ca, hs _ S.co, hs _ S.ev, S.al.mono hs, S.ea.mono fun q hq _ _ => hs q hq, fun j h1 h2 => (S.la j h1 h2).mono fun q hq _ => hs q hq, fun q hq => hs q (S.st q hq)⟩
theorem TurnS.take {h₀ h : Heap} {L : Addr} {vA vO : Option Value} (S : TurnS prog w X DX Dd G e cA cO bs D1 D2 i I oI oA oO es n f nx) (N : News h₀ L h nx) (dA : oA.data = .cell vA) (dO : oO.data = .cell vO)
    (dist : ∀ j, i < j → j < 3 → X j ≠ DX i ∧ DX j ≠ DX i ∧ Dd j ≠ DX i) (hb : ∀ q ∈ bs, q.1 ≠ DX i) (hI : I ≠ DX i)
    (hs : ∀ q ∈ nx, q.1 ≠ DX i → q ∈ nx') (hA : AlarmIn prog w (X i) (DX i) f' nx') : TurnS prog w X DX Dd G e cA cO bs D1 D2 i I oI oA oO es n f' nx' := by
  obtain ⟨d, t, od, kvs, a1, a2, -⟩ := S.al
  have keep : ∀ q ∈ nx, (∀ es n, q.2.data ≠ .dict es n) → q ∈ nx' := fun q hq hd => hs q hq (ne_obj N hq a2 (hd _ _))
  refine ⟨hs _ S.it hI, keep _ S.ca fun es n x => ?_, keep _ S.co fun es n x => ?_, keep _ S.ev fun es n x => ?_, hA, S.ea.mono fun q hq hd _ => keep q hq fun es n x => ?_, fun j h1 h2 => (S.la j h1 h2).mono fun q hq hq' => hs q hq ?_, fun q hq => hs q (S.st q hq) (hb q hq)⟩
  · dsimp only at x; rw [dA] at x; cases x
  · dsimp only at x; rw [dO] at x; cases x
  · cases x
  · obtain ⟨its, n, hd⟩ := hd; rw [hd] at x; cases x
  · obtain ⟨e1, e2, e3⟩ := dist j h1 h2
    rcases hq' with q1 | q1 | q1 <;> rw [q1]
    · exact e1
    · exact e2
    · exact e3
theorem TurnS.first {h₀ h : Heap} {L : Addr} {R : List (Addr × Obj)} (_ : News h₀ L h ((I, oI) :: (cA, oA) :: (cO, oO) :: R)) (he : (e, PySem.W.listOf (List.toArray es) n) ∈ R) (hE : EveryAre e R D1 D2 es) (hal : ∀ j, i ≤ j → j < 3 → AlarmAt prog w (X j) (DX j) (Dd j) (G j) R) (hi : i < 3) (hbs : ∀ q ∈ bs, q ∈ R) :
    TurnS prog w X DX Dd G e cA cO bs D1 D2 i I oI oA oO es n (G i) ((I, oI) :: (cA, oA) :: (cO, oO) :: R) :=
  ⟨.head _, .tail _ (.head _), .tail _ (.tail _ (.head _)), .tail _ (.tail _ (.tail _ he)), AlarmIn.intro ((hal i (Nat.le_refl _) hi).mono fun q hq _ => .tail _ (.tail _ (.tail _ hq))), hE.mono fun q hq _ _ => .tail _ (.tail _ (.tail _ hq)), fun j h1 h2 => (hal j (Nat.le_of_lt h1) h2).mono fun q hq _ => .tail _ (.tail _ (.tail _ hq)), fun q hq => .tail _ (.tail _ (.tail _ (hbs q hq)))⟩
end
theorem three_dist {x1 x2 x3 dx1 dx2 dx3 d1 d2 d3 : Addr} (h1 : dx1 ≠ x2 ∧ dx1 ≠ dx2 ∧ dx1 ≠ d2) (h2 : dx1 ≠ x3 ∧ dx1 ≠ dx3 ∧ dx1 ≠ d3) (h3 : dx2 ≠ x3 ∧ dx2 ≠ dx3 ∧ dx2 ≠ d3) :
    ∀ i j, i < j → j < 3 → pick3 x1 x2 x3 j ≠ pick3 dx1 dx2 dx3 i ∧ pick3 dx1 dx2 dx3 j ≠ pick3 dx1 dx2 dx3 i ∧ pick3 d1 d2 d3 j ≠ pick3 dx1 dx2 dx3 i := by
  intro i j hij hj
  have : (i = 0 ∧ j = 1) ∨ (i = 0 ∧ j = 2) ∨ (i = 1 ∧ j = 2) := by omega
  rcases this with ⟨rfl, rfl⟩ | ⟨rfl, rfl⟩ | ⟨rfl, rfl⟩
  · exact ⟨h1.1.symm, h1.2.1.symm, h1.2.2.symm⟩
  · exact ⟨h2.1.symm, h2.2.1.symm, h2.2.2.symm⟩
  · exact ⟨h3.1.symm, h3.2.1.symm, h3.2.2.symm⟩
theorem three_ne {dx1 dx2 dx3 a : Addr} (h1 : a ≠ dx1) (h2 : a ≠ dx2) (h3 : a ≠ dx3) (i : Nat) : a ≠ pick3 dx1 dx2 dx3 i := by
  unfold pick3
  split
  · exact h1
  · split
    · exact h2
    · exact h3
theorem AlarmIn.objs {prog : Program} {w : World} {x dx : Addr} {f : Str → Option Int} {nx : List (Addr × Obj)} (h : AlarmIn prog w x dx f nx) : ∃ d t, (x, instObj 84 dx) ∈ nx ∧ (dx, fieldsT w d t) ∈ nx := by
  obtain ⟨d, t, od, kvs, a1, a2, -⟩ := h
  exact ⟨d, t, a1, a2⟩
end Mine
namespace Mine
theorem TurnS.append {prog : Program} {w : World} {X DX Dd : Nat → Addr} {G : Nat → Str → Option Int} {e cA cO : Addr} {bs : List (Addr × Obj)} {D1 D2 : List Str} {i : Nat} {I : Addr} {oI oA oO : Obj} {es : List Value} {n : Nat} {f : Str → Option Int} {nx : List (Addr × Obj)} {h₀ h : Heap} {L D la lc : Addr} {vA vO : Option Value} {va vc : List Value} {na nc c : Nat}
    (S : TurnS prog w X DX Dd G e cA cO bs D1 D2 i I oI oA oO es n f nx) (N : News h₀ L h ((D, ({ cls := .type "tuple", data := .seq #[.ref la, .ref lc] c } : Obj)) :: (lc, PySem.W.listOf (List.toArray vc) nc) :: nx)) (dA : oA.data = .cell vA) (dO : oO.data = .cell vO)
    (hla : (la, PySem.W.listOf (List.toArray va) na) ∈ nx) (ha : StrsAre va D1) (hc : StrsAre vc D2) (hae : la ≠ e) (hce : lc ≠ e) (hDe : D ≠ e) (hIe : I ≠ e) (hb : ∀ q ∈ bs, q.1 ≠ e) :
    TurnS prog w X DX Dd G e cA cO bs D1 D2 i I oI oA oO (es ++ [.ref D]) (n + 1) f ((e, PySem.W.listOf (es.toArray.push (.ref D)) (n + 1)) :: avoid ((D, ({ cls := .type "tuple", data := .seq #[.ref la, .ref lc] c } : Obj)) :: (lc, PySem.W.listOf (List.toArray vc) nc) :: nx) e) := by
  have up : ∀ q ∈ nx, q.1 ≠ e → q ∈ (e, PySem.W.listOf (es.toArray.push (.ref D)) (n + 1)) :: avoid ((D, ({ cls := .type "tuple", data := .seq #[.ref la, .ref lc] c } : Obj)) :: (lc, PySem.W.listOf (List.toArray vc) nc) :: nx) e := fun q hq hn =>
    .tail _ (avoid_mem (.tail _ (.tail _ hq)) hn)
  have N' : News h₀ L h nx := News.sub N fun q hq => .tail _ (.tail _ hq)
  have keep : ∀ q ∈ nx, (∀ its n, q.2.data ≠ .seq its n) → q ∈ (e, PySem.W.listOf (es.toArray.push (.ref D)) (n + 1)) :: avoid ((D, ({ cls := .type "tuple", data := .seq #[.ref la, .ref lc] c } : Obj)) :: (lc, PySem.W.listOf (List.toArray vc) nc) :: nx) e := fun q hq hd =>
    up q hq (ne_obj N' hq S.ev (hd _ _))
  have keepA : ∀ {x dx d : Addr} {f : Str → Option Int}, AlarmAt prog w x dx d f nx → AlarmAt prog w x dx d f ((e, PySem.W.listOf (es.toArray.push (.ref D)) (n + 1)) :: avoid ((D, ({ cls := .type "tuple", data := .seq #[.ref la, .ref lc] c } : Obj)) :: (lc, PySem.W.listOf (List.toArray vc) nc) :: nx) e) := fun h =>
    h.objs fun q hq _ hd => keep q hq fun its n x => (by rcases hd with ⟨es, k, y⟩ | y <;> rw [y] at x <;> cases x)
  refine ⟨up _ S.it hIe, keep _ S.ca fun its n x => ?_, keep _ S.co fun its n x => ?_, ?_, S.al.imp fun d h => keepA h, ?_, fun j h1 h2 => keepA (S.la j h1 h2), fun q hq => up q (S.st q hq) (hb q hq)⟩
  · dsimp only at x; rw [dA] at x; cases x
  · dsimp only at x; rw [dO] at x; cases x
  · rw [List.push_toArray]; exact .head _
  · refine (S.ea.mono fun q hq hd hcls => ?_).append (.cons (.tail _ (avoid_mem (.head _) hDe)) (up _ hla hae) ha (.tail _ (avoid_mem (.tail _ (.head _)) hce)) hc hae hce .nil)
    by_cases hq' : q.1 = e
    · have hx := (N' _ hq).1
      have hy := (N' _ S.ev).1
      rw [hq', hy] at hx
      injection hx with hx
      have := hcls hq'
      rw [← hx] at this
      injection this with this
      exact absurd this (by decide)
    · exact up q hq hq'
theorem strs_app {va vb : List Value} {D1 D2 : List Str} (h : StrsAre va D1) (k : StrsAre vb D2) : StrsAre (va ++ vb) (D1 ++ D2) := strs_append h k
end Mine
namespace Mine
/-- what the comprehension of what is left keeps -/
def LeftJ (f : Str → Option Int) (base : List (Addr × Obj)) (i : Nat) (ys : List Value) (nx : List (Addr × Obj)) : Prop := IntsAre ys (leftL f i) ∧ ∀ q ∈ base, q ∈ nx
end Mine
namespace Mine
theorem left_late {G : Str → Option Int} {ds es : List Str} {b : Int} (h : IsDue (remF G ds) b es) : ∀ t ∈ leftL (remF (remF G ds) es) 6, b < t := by
  intro t ht
  obtain ⟨j, hj, e⟩ := leftL_mem.mp ht
  exact (due_left h hj e).2
theorem first_none {f : Str → Option Int} (h : IsFirst f none) : leftL f 6 = [] := by
  refine List.eq_nil_iff_forall_not_mem.mpr fun t ht => ?_
  obtain ⟨j, hj, e⟩ := leftL_mem.mp ht
  have := h j hj
  rw [this] at e
  cases e
theorem first_some {f : Str → Option Int} {i : Int} (h : IsFirst f (some i)) : i ∈ leftL f 6 ∧ ∀ a ∈ leftL f 6, i ≤ a := by
  obtain ⟨⟨j, hj, e⟩, h2⟩ := h
  refine ⟨leftL_mem.mpr ⟨j, hj, e⟩, fun a ha => ?_⟩
  obtain ⟨k, hk, e'⟩ := leftL_mem.mp ha
  exact h2 k hk a e'
theorem sorted_same {a b a' b' : List Int} (p : a.Perm b) (pa : a'.Perm a) (pb : b'.Perm b) (oa : a'.Pairwise (· ≤ ·)) (ob : b'.Pairwise (· ≤ ·)) : a' = b' :=
  List.Perm.eq_of_pairwise (le := (· ≤ ·)) (fun _ _ _ _ h k => Int.le_antisymm h k) oa ob (pa.trans (p.trans pb.symm))
/-- what the last comprehension keeps -/
def LateJ (rows : List (Str × Option Int)) (lf : Str × Option Int → Option Int) (base : List (Addr × Obj)) (i : Nat) (ys : List Value) (nx : List (Addr × Obj)) : Prop := IntsAre ys ((rows.take i).filterMap lf) ∧ ∀ q ∈ base, q ∈ nx
theorem late_stay {rows : List (Str × Option Int)} {lf : Str × Option Int → Option Int} {base : List (Addr × Obj)} {i : Nat} {ys : List Value} {nx : List (Addr × Obj)} (h : LateJ rows lf base i ys nx) (hi : i < rows.length) (e : lf rows[i] = none) : LateJ rows lf base (i + 1) ys nx := by
  refine ⟨?_, h.2⟩
  rw [List.take_succ_eq_append_getElem hi, List.filterMap_append]
  simpa [e] using h.1
theorem late_more {rows : List (Str × Option Int)} {lf : Str × Option Int → Option Int} {t : Int} {u : Tok} {base : List (Addr × Obj)} {i : Nat} {ys : List Value} {nx : List (Addr × Obj)} (h : LateJ rows lf base i ys nx) (hi : i < rows.length) (e : lf rows[i] = some t) : LateJ rows lf base (i + 1) (ys ++ [.int t u]) nx := by
  refine ⟨?_, h.2⟩
  rw [List.take_succ_eq_append_getElem hi, List.filterMap_append]
  have : List.filterMap lf [rows[i]] = [t] := by simp [e]
  rw [this]
  exact h.1.append (.cons _ _ .nil)
theorem left_stay {f : Str → Option Int} {base : List (Addr × Obj)} {i : Nat} {ys : List Value} {nx : List (Addr × Obj)} (h : LeftJ f base i ys nx) (e : f (kindAt i) = none) : LeftJ f base (i + 1) ys nx := by
  refine ⟨?_, h.2⟩
  rw [leftL_succ, e]
  simpa using h.1
theorem left_more {f : Str → Option Int} {t : Int} {u : Tok} {base : List (Addr × Obj)} {i : Nat} {ys : List Value} {nx : List (Addr × Obj)} (h : LeftJ f base i ys nx) (e : f (kindAt i) = some t) : LeftJ f base (i + 1) (ys ++ [.int t u]) nx := by
  refine ⟨?_, h.2⟩
  rw [leftL_succ, e]
  exact h.1.append (.cons _ _ .nil)
theorem TurnS.done {prog : Program} {w : World} {X DX Dd : Nat → Addr} {G : Nat → Str → Option Int} {e cA cO : Addr} {bs : List (Addr × Obj)} {D1 D2 : List Str} {i : Nat} {I : Addr} {oI oA oO : Obj} {es : List Value} {n : Nat} {f : Str → Option Int} {nx : List (Addr × Obj)} {h₀ h : Heap} {L : Addr} {vA vO : Option Value}
    (S : TurnS prog w X DX Dd G e cA cO bs D1 D2 i I oI oA oO es n f nx) (N : News h₀ L h nx) (dI : ∃ fs, oI.data = .fields fs) (dA : oA.data = .cell vA) (dO : oO.data = .cell vO) (hlen : es.length = i + 1) (hb : ∀ q ∈ bs, q.1 ≠ I) (m : Str → Option Value) :
    LoopJ prog w X DX Dd G e cA cO bs D1 D2 (i + 1) m (avoid nx I) := by
  obtain ⟨fs, dI⟩ := dI
  have keep : ∀ q ∈ nx, (∀ fs, q.2.data ≠ .fields fs) → q ∈ avoid nx I := fun q hq hd => avoid_mem hq (ne_obj N hq S.it (by rw [dI]; exact hd _))
  refine ⟨⟨es, n, keep _ S.ev (fun _ x => by cases x), hlen, S.ea.mono fun q hq hd _ => keep q hq fun _ x => ?_⟩, fun j h1 h2 => (S.la j (by omega) h2).objs fun q hq _ hd => keep q hq fun _ x => ?_, fun q hq => avoid_mem (S.st q hq) (hb q hq), ⟨_, _, keep _ S.ca fun _ x => ?_, dA⟩, ⟨_, _, keep _ S.co fun _ x => ?_, dO⟩⟩
  · obtain ⟨its, n, y⟩ := hd; rw [y] at x; cases x
  · rcases hd with ⟨es, k, y⟩ | y <;> rw [y] at x <;> cases x
  · dsimp only at x; rw [dA] at x; cases x
  · dsimp only at x; rw [dO] at x; cases x
theorem IterAt.data {tup : Bool} {h : Heap} {I ax : Addr} {i : Nat} {its : Array Value} {o : Obj} (x : IterAt tup h I ax i its) (e : h.get? I = some o) : ∃ fs, o.data = .fields fs := by
  cases tup with
  | true => obtain ⟨⟨o', q, _, r⟩, _⟩ := x; rw [e] at q; cases q; exact ⟨_, r⟩
  | false => obtain ⟨⟨o', q, _, r⟩, _⟩ := x; rw [e] at q; cases q; exact ⟨_, r⟩
end Mine
namespace Mine
theorem turn_facts {M kvs : List (Str × Value)} {a c : Int} {D1 D2 : List Str} (h1 : IsDue (lookF M 0) a D1) (h2 : IsDue (remF (lookF M 0) D1) (a + c) D2) (hc : 0 ≤ c) (hp : kvs.Perm M) (hn : (M.map (·.1)).Nodup) (hk : KT M) (off : Int) :
    (∀ t ∈ leftL (remF (remF (shiftF (lookF M 0) off) D1) D2) 6, a + c + off < t) ∧ (∀ es, IsDue (remF (remF (shiftF (lookF M 0) off) D1) D2) (a + c + off) es → es = []) ∧ (leftL (remF (remF (shiftF (lookF M 0) off) D1) D2) 6).Perm ((kvs.map toRow).filterMap (lateOf (a + c) off)) := by
  have k1 := h1.shift off
  have k2 := h2.shift off
  rw [← remF_shift] at k2
  exact ⟨left_late k2, fun es k => due_none k2 k, left_perm hp hn hk (due_rest (by omega) k1 k2)⟩
theorem facts_pack {prog : Program} {w : World} {X DX Dd : Nat → Addr} {G : Nat → Str → Option Int} {e cA cO : Addr} {bs : List (Addr × Obj)} {D1 D2 D3 : List Str} {i : Nat} {I : Addr} {oI oA oO : Obj} {es : List Value} {n : Nat} {nx : List (Addr × Obj)} {h₀ h : Heap} {L : Addr} {M kvs : List (Str × Value)} {a c off : Int}
    (S : TurnS prog w X DX Dd G e cA cO bs D1 D3 i I oI oA oO es n (remF (remF (shiftF (lookF M 0) off) D1) D2) nx) (N : News h₀ L h nx) (h1 : IsDue (lookF M 0) a D1) (h2 : IsDue (remF (lookF M 0) D1) (a + c) D2) (hp : kvs.Perm M) (hn : (M.map (·.1)).Nodup) (hk : KT M) (hc : 0 ≤ c) :
    ∃ nx f, TurnS prog w X DX Dd G e cA cO bs D1 D3 i I oI oA oO es n f nx ∧ News h₀ L h nx ∧ (∀ t ∈ leftL f 6, a + c + off < t) ∧ (∀ es, IsDue f (a + c + off) es → es = []) ∧ (leftL f 6).Perm ((kvs.map toRow).filterMap (lateOf (a + c) off)) := by
  obtain ⟨q1, q2, q3⟩ := turn_facts h1 h2 hc hp hn hk off
  exact ⟨nx, _, S, N, q1, q2, q3⟩
/-- a comprehension that keeps nothing -/
def EmptyJ (base : List (Addr × Obj)) (_i : Nat) (ys : List Value) (nx : List (Addr × Obj)) : Prop := ys = [] ∧ ∀ q ∈ base, q ∈ nx
theorem Src.of_lst {h₀ : Heap} {ax : Addr} {vs : List Value} {nx : List (Addr × Obj)} (h : (ax, lst vs) ∈ nx) : Src false h₀ ax (List.toArray vs) nx := ⟨_, .inr h, rfl, _, rfl⟩
theorem post_assign1 {prog : Program} {w : World} {A : Around} {E : Value → Shared → Prop} {s : Shared} {h₀ : Heap} {L : Addr} {m : Str → Option Value} {env : Env} {J : List Value → List (Addr × Obj) → Prop} {y : Str} {py : Pos} {Q : Shared → Prop} (hLe : env.locals = L) (hy : env.kindOf y = some .local) (hp : (env.scope.kind == .class || (env.scope.kind == .module && env.locals != env.globals)) = false)
    (fin : ∀ D ys nx h tk, Fr h₀ L h (fun z => if z = y then some (.ref D) else m z) → News h₀ L h ((D, lst ys) :: nx) → (∀ p ∈ nx, p.1 ≠ D) → J ys nx → Q { s with heap := h, toks := tk }) :
    CRR s h₀ L m J (compPost (model prog w) A E (some (assign (.Name y py) env)) (fun _ s' => Q s')) := post_assign (Q := fun _ s => Q s) hLe hy hp fin
end Mine
namespace Mine
theorem datall_ints {vs : List Value} {ns : List Int} (h : IntsAre vs ns) : DatAll [] vs (ns.map Dat.int) := by
  induction h with
  | nil => exact .nil
  | cons n t _ ih => exact .cons (.int n t) ih
theorem ok_ints (ns : List Int) : ∀ d ∈ ns.map Dat.int, kqdOk 8 d = true := by
  intro d hd
  obtain ⟨n, _, rfl⟩ := List.mem_map.mp hd
  rfl
section
variable {prog : Program} {w : World} {A : Around} {E : Value → Shared → Prop} {s : Shared} {h₀ : Heap} {L a b : Addr} {m : Str → Option Value} {news : List (Addr × Obj)} {Q : Value → Shared → Prop} {vs us : List Value} {ns : List Int} {ka kb : Nat}
open Classical in
theorem ne_left (N : News h₀ L s.heap news) (ma : (a, lst vs) ∈ news) (hi : IntsAre vs ns) (mb : (b, PySem.W.listOf #[] kb) ∈ news) (hpos : 0 < ns.length) (hu : A.units + 64 < cLine) (h : Q (.bool true) s) : wpAny (model prog w) A (compareOp .NotEq (.ref a) (.ref b)) Q E s := by
  refine kqd_ne (ys := []) (n₁ := []) (n₂ := []) N ma rfl rfl (datall_ints hi) (fun _ x => (nomatch x)) mb rfl rfl .nil (fun _ x => (nomatch x)) (ok_ints ns) (fun _ x => (nomatch x)) hu ?_
  have : ¬ ns.map Dat.int = [] := fun e => by rw [List.map_eq_nil_iff.mp e] at hpos; cases hpos
  rw [decide_eq_false this]
  exact h
open Classical in
theorem ne_same (N : News h₀ L s.heap news) (ma : (a, PySem.W.listOf vs.toArray ka) ∈ news) (hi : IntsAre vs ns) (mb : (b, PySem.W.listOf us.toArray kb) ∈ news) (hj : IntsAre us ns) (hu : A.units + 64 < cLine) (h : Q (.bool false) s) : wpAny (model prog w) A (compareOp .NotEq (.ref a) (.ref b)) Q E s := by
  refine kqd_ne (n₁ := []) (n₂ := []) N ma rfl rfl (datall_ints hi) (fun _ x => (nomatch x)) mb rfl rfl (datall_ints hj) (fun _ x => (nomatch x)) (ok_ints ns) (ok_ints ns) hu ?_
  rw [decide_eq_true rfl]
  exact h
theorem lst_isList (N : News h₀ L s.heap news) (ma : (a, lst vs) ∈ news) : s.heap.IsList a vs.toArray := ⟨_, (N _ ma).1, rfl, _, rfl⟩
theorem min_left {t : Int} (F : Fr h₀ L s.heap m) (N : News h₀ L s.heap news) (ma : (a, lst vs) ∈ news) (hi : IntsAre vs ns) (hl : t ∈ ns ∧ ∀ x ∈ ns, t ≤ x) (hh : A.handled = none)
    (h : ∀ h' u tk, Fr h₀ L h' m → News h₀ L h' news → Q (.int t u) { s with heap := h', toks := tk }) : wpAny (model prog w) A (call (.builtin "min") [.ref a]) Q E s := by
  refine kso_min F N (lst_isList N ma) hi (List.length_pos_of_mem hl.1) hh ?_
  intro h' M u tk F' N' h1 h2
  rw [Int.le_antisymm (h2 _ hl.1) (hl.2 _ h1)]
  exact h h' u tk F' N'
theorem sorted_left (F : Fr h₀ L s.heap m) (N : News h₀ L s.heap news) (ma : (a, lst vs) ∈ news) (hi : IntsAre vs ns) (h64 : ns.length ≤ 6)
    (h : ∀ D vs' ns' c h', Fr h₀ L h' m → News h₀ L h' ((D, PySem.W.listOf vs'.toArray c) :: news) → (∀ q ∈ news, q.1 < D) → IntsAre vs' ns' → ns'.Perm ns → ns'.Pairwise (· ≤ ·) → Q (.ref D) { s with heap := h' }) :
    wpAny (model prog w) A (call (.builtin "sorted") [.ref a]) Q E s :=
  kso_sorted F N (lst_isList N ma) hi (by omega) fun D vs' ns' c h' F' N' hD I' _ P' O' _ => h D vs' ns' c h' F' N' hD I' P' O'
end
theorem late_pack {l : List Int} {rows : List (Str × Option Int)} {second off : Int} (h : l.Perm (rows.filterMap (lateOf second off))) : ∃ lf, lf = lateOf second off ∧ l.Perm (rows.filterMap lf) := ⟨_, rfl, h⟩
theorem late_none {second off : Int} {r : Str × Option Int} (h : r.2 = none) : lateOf second off r = none := by unfold lateOf; rw [h]
theorem late_less {second off j : Int} {r : Str × Option Int} (h : r.2 = some j) (k : ¬ j > second) : lateOf second off r = none := by
  unfold lateOf; rw [h]; exact if_neg k
theorem late_some {second off j : Int} {r : Str × Option Int} (h : r.2 = some j) (k : j > second) : lateOf second off r = some (j + off) := by
  unfold lateOf; rw [h]; exact if_pos k
end Mine
namespace Mine
theorem front_mem {h₀ h : Heap} {L dx : Addr} {o : Obj} {l : List (Addr × Obj)} (N : News h₀ L h l) (hm : (dx, o) ∈ l) : ∀ q ∈ l, q ∈ (dx, o) :: avoid l dx := fun q hq => by
  by_cases e : q.1 = dx
  · have a := (N _ hq).1
    have b := (N _ hm).1
    dsimp only at b
    rw [e, b] at a
    injection a with a
    obtain ⟨q1, q2⟩ := q
    dsimp only at e a
    subst e a
    exact .head _
  · exact .tail _ (avoid_mem hq e)
theorem datall_strs {news : List (Addr × Obj)} {vs : List Value} {ks : List Str} (h : StrsAre vs ks) : DatAll news vs (ks.map Dat.str) := by
  induction h with
  | nil => exact .nil
  | cons n t _ ih => exact .cons (.str n t) ih
theorem kinds_ok : ∀ k ∈ kinds, PyData.strOk k = true := by decide +kernel
theorem ok_strs {ks : List Str} (h : ∀ k ∈ ks, k ∈ kinds) : ∀ n, ∀ d ∈ ks.map Dat.str, kqdOk n d = true := by
  intro n d hd
  obtain ⟨k, hk, rfl⟩ := List.mem_map.mp hd
  have := kinds_ok k (h k hk)
  cases n <;> exact this
/-- a pair of lists of kinds -/
def pairD (D1 D2 : List Str) : Dat := .tuple [.list (D1.map Dat.str), .list (D2.map Dat.str)]
theorem ok_pair {D1 D2 : List Str} (h1 : ∀ k ∈ D1, k ∈ kinds) (h2 : ∀ k ∈ D2, k ∈ kinds) : kqdOk 8 (pairD D1 D2) = true := by
  unfold pairD
  simp only [kqdOk, List.all_cons, List.all_nil, Bool.and_true, Bool.and_eq_true]
  exact ⟨List.all_eq_true.mpr (ok_strs h1 6), List.all_eq_true.mpr (ok_strs h2 6)⟩
theorem every_dats {e : Addr} {nx : List (Addr × Obj)} {D1 D2 : List Str} {es : List Value} (h : EveryAre e nx D1 D2 es) : DatAll nx es (List.replicate es.length (pairD D1 D2)) := by
  induction h with
  | nil => exact .nil
  | @cons t a b va vb n1 n2 c vs h1 h2 h3 h4 h5 _ _ _ ih =>
    rw [List.length_cons, List.replicate_succ]
    exact .cons (.tuple (vs := [.ref a, .ref b]) h1 (.cons (.list h2 (datall_strs h3)) (.cons (.list h4 (datall_strs h5)) .nil))) ih
section
variable {prog : Program} {w : World} {A : Around} {E : Value → Shared → Prop} {s : Shared} {h₀ : Heap} {L a b e : Addr} {m : Str → Option Value} {news nx : List (Addr × Obj)} {Q : Value → Shared → Prop} {D1 D2 : List Str}
open Classical in
theorem eq_every {v1 v2 v3 : Value} {n k : Nat} (N : News h₀ L s.heap news) (he : (e, PySem.W.listOf #[v1, v2, v3] n) ∈ news) (hE : EveryAre e nx D1 D2 [v1, v2, v3]) (hs : ∀ q ∈ nx, q ∈ news) (hb : (b, PySem.W.listOf #[v1, v1, v1] k) ∈ news)
    (h1 : ∀ k ∈ D1, k ∈ kinds) (h2 : ∀ k ∈ D2, k ∈ kinds) (hu : A.units + 64 < cLine) (h : Q (.bool true) s) : wpAny (model prog w) A (compareOp .Eq (.ref e) (.ref b)) Q E s := by
  have d := every_dats hE
  have d1 : DatIn nx v1 (pairD D1 D2) := by
    cases d with
    | cons x _ => exact x
  have ok : ∀ d ∈ [pairD D1 D2, pairD D1 D2, pairD D1 D2], kqdOk 8 d = true := by
    intro d hd
    have : d = pairD D1 D2 := by simpa using hd
    rw [this]
    exact ok_pair h1 h2
  refine kqd_eq (xs := [v1, v2, v3]) (ys := [v1, v1, v1]) N he rfl rfl d hs hb rfl rfl (.cons d1 (.cons d1 (.cons d1 .nil))) hs ok ok hu ?_
  rw [decide_eq_true (by rfl)]
  exact h
open Classical in
theorem eq_strs {vs us : List Value} {n k : Nat} (N : News h₀ L s.heap news) (ha : (a, PySem.W.listOf vs.toArray n) ∈ news) (hA : StrsAre vs D1) (hb : (b, PySem.W.listOf us.toArray k) ∈ news) (hB : StrsAre us D1)
    (h1 : ∀ k ∈ D1, k ∈ kinds) (hu : A.units + 64 < cLine) (h : Q (.bool true) s) : wpAny (model prog w) A (compareOp .Eq (.ref a) (.ref b)) Q E s := by
  refine kqd_eq (n₁ := []) (n₂ := []) N ha rfl rfl (datall_strs hA) (fun _ x => nomatch x) hb rfl rfl (datall_strs hB) (fun _ x => nomatch x) (ok_strs h1 8) (ok_strs h1 8) hu ?_
  rw [decide_eq_true rfl]
  exact h
theorem mul3 {v : Value} {k : Nat} {l : Addr} {u : Tok} (F : Fr h₀ L s.heap m) (N : News h₀ L s.heap news) (hl : (l, PySem.W.listOf #[v] k) ∈ news)
    (h : ∀ D h', Fr h₀ L h' m → News h₀ L h' ((D, PySem.W.listOf #[v, v, v] 0) :: news) → (∀ q ∈ news, q.1 < D) → Q (.ref D) { s with heap := h' }) : wpAny (model prog w) A (binaryOp .Mult (.ref l) (.int 3 u)) Q E s :=
  mul_list F N (N _ hl).1 (by decide) (by decide) (by show 1 * 3 ≤ 2 ^ 24; decide) fun h' F' N' => h _ h' F' N' fun _ hq => Heap.lt_size (N _ hq).1
end
end Mine
namespace Mine
theorem walk_off_W1 : True := by
  w_top off
  trivial
local macro_rules | `(tactic| k_all) => `(tactic| assumption)
local macro_rules | `(tactic| walk_at "exec For Name Name cons nil") => `(tactic| (k_here; refine For_code ?_))
local macro_rules | `(tactic| size_fits) => `(tactic| assumption)
local macro_rules | `(tactic| k_mem) => `(tactic| first | ktr_member | (with_reducible assumption) | (refine List.mem_cons_of_mem _ ?_; k_mem))
local macro_rules | `(tactic| walk_at "eval ListComp") => `(tactic| (k_here; k_dflt (refine comp_expr (by rfl) (by rfl) (by decide) ?_)))
local macro_rules | `(tactic| walk_at "call builtin:sorted") => `(tactic| fail "mine")
local macro_rules | `(tactic| walk_at "subscriptTail") => `(tactic| (k_here; (with_reducible show wpAny _ _ (subscriptTail _ _ (Value.ref 15) (Value.int _ _)) _ _ _); k_dflt (refine' kinds_item ?F ?X ?a ?b ?_; (case F => k_asm); (case X => k_asm); (case a => first | assumption | omega); (case b => first | assumption | omega)); intro _))
theorem times_get {prog : Program} {w : World} {A : Around} {E : Value → Shared → Prop} {s : Shared} {h₀ : Heap} {L d : Addr} {news : List (Addr × Obj)} {od : Obj} {kvs : List (Str × Value)} {f : Str → Option Int} {k : Str} {t : Tok} {Q : Value → Shared → Prop}
    (N : News h₀ L s.heap news) (hp : (d, od) ∈ news) (hod : od.IsDictOf (PySem.strKind prog w) kvs) (lo : (d == sysModules) = false) (hf : TimesOf kvs f)
    (h0 : f k = none → Q .none { s with toks := s.toks + 1 }) (h1 : ∀ i u, f k = some i → Q (.int i u) { s with toks := s.toks + 1 }) : wpAny (model prog w) A (call (.builtin "dict.get") [.ref d, .str k t]) Q E s := by
  rcases hf.look k with ⟨e1, e2⟩ | ⟨i, u, e1, e2⟩
  · exact kdg_get1 N hp hod lo (strKind_is _ _ _ _) none e1 (h0 e2)
  · exact kdg_get1 N hp hod lo (strKind_is _ _ _ _) (some (.int i u)) e1 (h1 i u e2)
local macro_rules | `(tactic| walk_at "getMethod ref") => `(tactic| (k_here; (with_reducible show wpAny _ _ (getMethod (Value.ref _) (Str.ofString "get") _) _ _ _); k_dflt (refine kdg_method (knd := PySem.strKind _ _) (by k_asm) (by k_mem) (by k_asm) ?_)))
local macro_rules | `(tactic| walk_at "call builtin:dict.get") => `(tactic| (k_here; (with_reducible show wpAny _ _ (call (Value.builtin "dict.get") [Value.ref _, Value.str _ _]) _ _ _); k_dflt (refine times_get (by k_asm) (by k_mem) (by k_asm) (by k_asm) (by k_asm) ?_ ?_) <;> intros))
local macro_rules | `(tactic| walk_at "getMethod ref") => `(tactic| (k_here; (with_reducible show wpAny _ _ (getMethod (Value.ref 15) (Str.ofString "index") _) _ _ _); k_dflt (refine' kinds_method ?F ?X ?_; (case F => k_asm); (case X => k_asm); k_whole)))
local macro_rules | `(tactic| walk_at "call builtin:tuple.index") => `(tactic| (k_here; k_dflt (refine' kinds_index ?F ?X ?a ?b ?_; (case F => k_asm); (case X => k_asm); (case a => assumption); (case b => assumption); k_whole)))
section
variable {prog : Program} {w : World} {p : Program} {loose : List Str} {mean : ExcName → Option Value} {mg mb : Str → Option Value}
    {dp un : Nat} {gd : Option (List Code)} {cn : Str} {cs : Scope} {a : Addr} {ccd : Value} {cl : List (Str × Addr)} {outer : List Env} {A₀ : Around} {base h₀ : Heap} {L : Addr} {m : Str → Option Value} {s : Shared} {news : List (Addr × Obj)}
    {Q E : Value → Shared → Prop}
    (B : Below A₀ base outer h₀) (F : Fr h₀ L s.heap m) (X : (Mine.hd.heap_39 w.params).In h₀) (T : Top p loose mean mg mb h₀) (hk : cs.kind = .function) (N : News h₀ L s.heap news)
include B F X T hk N
set_option maxHeartbeats 8000000 in
theorem place_spec {k : Str} {i : Nat} {tn : Tok} (hi : i < kinds.length) (hki : k = kinds[i]) (hd : dp + 1 < recursionLimit) (hu : un + 8 < cLine)
    (ret : ∀ t h' tk', Fr h₀ L h' m → News h₀ L h' news → Q (.int i t) { s with heap := h', toks := tk' }) :
    wpAny (model prog w) (ktrTop dp un gd cn cs L a ccd cl outer) (call (.ref 22) [.str k tn]) Q E s := by
  refine wpAny_call ?_
  k_dflt ktr_enter
  k_steps
  exact ret _ _ _ (by assumption) (by assumption)
end
local macro_rules | `(tactic| walk_at "call ref") => `(tactic| (k_here; (with_reducible show wpAny _ _ (call (Value.ref 22) _) _ _ _); k_dflt (refine' place_spec ?B ?F ?X ?T ?k ?N ?hi ?hki ?hd ?hu ?_; (case B => k_asm); (case F => k_asm); (case X => k_asm); (case T => k_asm); (case k => exact rfl); (case N => k_asm); (case hi => assumption); (case hki => first | rfl | assumption); (case hd => ktr_room); (case hu => ktr_units)); intro _ _ _ F' N'; (try dsimp only)))
section
variable {prog : Program} {w : World} {p : Program} {loose : List Str} {mean : ExcName → Option Value} {mg mb : Str → Option Value}
    {dp un : Nat} {gd : Option (List Code)} {cn : Str} {cs : Scope} {a : Addr} {ccd : Value} {cl : List (Str × Addr)} {outer : List Env} {A₀ : Around} {base h₀ : Heap} {L : Addr} {m : Str → Option Value} {s : Shared} {news : List (Addr × Obj)}
    {Q E : Value → Shared → Prop}
    (B : Below A₀ base outer h₀) (F : Fr h₀ L s.heap m) (X : (Mine.hd.heap_39 w.params).In h₀) (T : Top p loose mean mg mb h₀) (hk : cs.kind = .function) (N : News h₀ L s.heap news)
include B F X T hk N
set_option maxHeartbeats 8000000 in
theorem all_due_spec {d : Addr} {od : Obj} {kvs : List (Str × Value)} {f : Str → Option Int} {now : Int} {tn : Tok}
    (hm : (d, od) ∈ news) (hod : od.IsDictOf (PySem.strKind prog w) kvs) (lo : (d == sysModules) = false) (hf : TimesOf kvs f)
    (hd : dp + 2 < recursionLimit) (hu : un + 16 < cLine)
    (ret : ∀ l vs ds n h' tk', IsDue f now ds → StrsAre vs ds → Fr h₀ L h' m → News h₀ L h' ((l, PySem.W.listOf vs.toArray n) :: news) → (∀ q ∈ news, q.1 ≠ l) → Q (.ref l) { s with heap := h', toks := tk' }) :
    wpAny (model prog w) (ktrTop dp un gd cn cs L a ccd cl outer) (call (.ref 34) [.ref d, .int now tn]) Q E s := by
  refine wpAny_call ?_
  k_dflt ktr_enter
  k_steps
  rename Fr _ _ _ _ => F1
  rename News _ _ _ _ => N1
  rename Frag.In _ _ => X1
  rename ∀ q ∈ news, q.1 < _ => hlt
  obtain ⟨kv, hkv, hsrc⟩ := kinds_src X1
  refine iter_name (tup := true) [Str.ofString "kind", Str.ofString "told"] (fun i _ => DueJ f now news _ i) rfl rfl rfl (hsrc _) F1 N1 ⟨[], 0, [], news, rfl, .nil, .nil, fun _ h => h, fun q hq => Nat.ne_of_lt (hlt q hq)⟩ (fun _ _ _ _ => hsrc _) ?_ ?_
  · rintro i v u nx I oI h tk₁ hv ⟨vs, n, ps, tl, rfl, hP, hK, hsub, hoff⟩ hI F2 N2
    replace F2 := Fr.as F1 F2
    replace N2 := News.as F1 N2
    clear F1 N1
    have hi : i < kinds.length := by
      obtain ⟨hi, _⟩ := Array.getElem?_eq_some_iff.mp hv
      rw [← strs_len hkv]; simpa using hi
    obtain ⟨ut, hut⟩ := strs_get hkv i hi
    rw [List.getElem?_toArray, hut] at hv
    cases hv
    have hmd := hsub _ hm
    have hlI := hI _ (.head _)
    have hIl := Ne.symm hlI
    dsimp only at hlI hIl
    have hsz : vs.toArray.size ≤ sizeLine := pairs_size hP hK hi
    k_steps
    all_goals (rename Fr _ _ _ _ => F3; rename News _ _ _ _ => N3)
    · exact due_stay F3 N3 hP hK hsub hoff hI (.inl (by rw [kindAt_eq hi]; assumption)) fun z hz => (if_neg (free_ne hz (by rfl))).trans ((if_neg (free_ne hz (by rfl))).trans (frM_out hz))
    · rename _ ∧ _ ∧ AllLt _ _ => l1
      exact due_turn F3 N3 (Nat.ne_of_gt l1.1) (Nat.ne_of_gt l1.2.1) hP hK hsub hoff hI (by rw [kindAt_eq hi]; assumption) (by assumption) fun z hz => (if_neg (free_ne hz (by rfl))).trans ((if_neg (free_ne hz (by rfl))).trans (frM_out hz))
    · exact due_stay F3 N3 hP hK hsub hoff hI (.inr ⟨_, by rw [kindAt_eq hi]; assumption, by assumption⟩) fun z hz => (if_neg (free_ne hz (by rfl))).trans ((if_neg (free_ne hz (by rfl))).trans (frM_out hz))
  · intro h₂ tk₂ u nx F2 N2
    replace F2 := Fr.as F1 F2
    replace N2 := News.as F1 N2
    clear F1 N1
    rintro ⟨vs, n, ps, tl, rfl, hP, hK, hsub, hoff⟩
    have hz : kv.toArray.size = 6 := by rw [List.size_toArray, strs_len hkv]; rfl
    rw [hz] at hK
    dsimp only
    k_steps
    refine sorted_ints2 F2 N2 List.mem_cons_self (hP.mono fun q hq => List.mem_cons_of_mem _ hq) hK (duePairs_len _ _ _) (duePairs_nodup _ _ _) ?_
    intro D vs' ps' ks' h₃ c hperm hord P' K' F3 N3 hD
    clear F2 N2
    have hks : ks'.length ≤ 6 := by rw [hperm.length_eq]; exact duePairs_len _ _ _
    have hl1 := P'.length
    have hl2 := K'.length
    refine seq_pair (tup := false) (its := List.toArray vs') (fun i ys nx => StrsAre ys ((ks'.take i).map fun p => kindAt p.2.toNat) ∧ nx = _) (fun i v₁ v₂ => ∃ hi : i < ks'.length, ∃ t u, v₁ = .int (ks'[i]).1 t ∧ v₂ = .int (ks'[i]).2 u) _ rfl (by decide) rfl rfl rfl (by decide) ?_ ?_ F3 N3 ⟨.nil, rfl⟩ ?_ ?_ ?_ ?_
    · rw [sizeLine_eq, List.size_toArray]; omega
    · exact ⟨_, .inr List.mem_cons_self, rfl, _, rfl⟩
    · rintro i ys nx ⟨-, rfl⟩
      exact ⟨_, .inr List.mem_cons_self, rfl, _, rfl⟩
    · rintro i v ys nx hv ⟨-, rfl⟩
      have hi : i < vs'.length := by
        obtain ⟨hi, _⟩ := Array.getElem?_eq_some_iff.mp hv
        simpa using hi
      obtain ⟨a, n, e1, e2⟩ := P'.get i (by omega)
      obtain ⟨t, u, e3⟩ := K'.get i (by omega) (by omega)
      rw [List.getElem?_toArray, e1] at hv
      cases hv
      exact ⟨a, _, _, rfl, ⟨by omega, t, u, by rw [e3], by rw [e3]⟩, _, .inr (List.mem_cons_of_mem _ e2), rfl, n, rfl⟩
    · rintro i v₁ v₂ hi ⟨hi', t, u, rfl, rfl⟩ ys nx I oI oC m₂ C D h tk ⟨hS, rfl⟩ ⟨e1, e2⟩ hC F2 N2 off ne -
      have hb : 0 ≤ (ks'[i]).2 ∧ (ks'[i]).2 < 6 := by
        obtain ⟨j, hj, _, _, e⟩ := duePairs_mem.mp (hperm.mem_iff.mp (List.getElem_mem hi'))
        omega
      have hb1 := hb.1
      have hb2 := hb.2
      k_steps
      refine CEnd.stay F2 N2 off ⟨?_, rfl⟩
      rw [List.take_succ_eq_append_getElem hi', List.map_append]
      exact strs_append hS (.cons _ _ .nil)
    · refine post_none ?_
      rintro D₂ ys nx h₄ tk₄ F4 N4 off ⟨hS, rfl⟩
      rw [List.size_toArray, show vs'.length = ks'.length by omega, List.take_length] at hS
      dsimp only
      k_steps
      rename News _ _ _ _ => kN
      refine ret _ _ _ ys.length _ _ ⟨ks', hperm, hord, rfl⟩ hS (by assumption) (News.sub kN fun q hq => ?_) fun q hq => off q (List.mem_cons_of_mem _ (List.mem_cons_of_mem _ (hsub q hq)))
      rcases List.mem_cons.mp hq with rfl | hq
      · exact List.mem_cons_self
      · exact List.mem_cons_of_mem _ (List.mem_cons_of_mem _ (List.mem_cons_of_mem _ (hsub q hq)))
end
theorem walk_off_W2 : True := by
  w_top off
  trivial
local macro_rules | `(tactic| walk_at "call type:dict") => `(tactic| fail "mine")
local macro_rules | `(tactic| walk_at "setItem ref str") => `(tactic| (k_here; k_dflt (refine' kda_set (knd := PySem.strKind _ _) ?F ?N ?U ?d (strKind_is _ _ _ _) ?z ?_; (case F => k_asm); (case N => k_asm); (case U => k_updF); (case d => k_asm); (case z => assumption)); intro h' o' F' N' hd'; (try dsimp only at N')))
local macro_rules | `(tactic| walk_at "subscriptTail") => `(tactic| (k_here; (with_reducible show wpAny _ _ (subscriptTail _ _ (Value.ref _) (Value.str _ _)) _ _ _); k_dflt (refine kda_item (knd := PySem.strKind _ _) (by k_asm) (by k_mem) (by k_asm) (strKind_is _ _ _ _) (by assumption) ?_)))
section
variable {prog : Program} {w : World} {p : Program} {loose : List Str} {mean : ExcName → Option Value} {mg mb : Str → Option Value}
    {dp un : Nat} {gd : Option (List Code)} {cn : Str} {cs : Scope} {a : Addr} {ccd : Value} {cl : List (Str × Addr)} {outer : List Env} {A₀ : Around} {base h₀ : Heap} {L : Addr} {m : Str → Option Value} {s : Shared} {news : List (Addr × Obj)}
    {Q E : Value → Shared → Prop}
    (B : Below A₀ base outer h₀) (F : Fr h₀ L s.heap m) (X : (Mine.hd.heap_39 w.params).In h₀) (T : Top p loose mean mg mb h₀) (hk : cs.kind = .function) (N : News h₀ L s.heap news)
include B F X T hk N
set_option maxHeartbeats 8000000 in
theorem with_spec {d : Addr} {od : Obj} {kvs : List (Str × Value)} {f : Str → Option Int} {k : Str} {tn : Tok} {tv : Value} {o : Option Int}
    (hm : (d, od) ∈ news) (hod : od.IsDictOf (PySem.strKind prog w) kvs) (lo : (d == sysModules) = false) (hf : TimesOf kvs f) (htv : Told tv o) (hkk : k ∈ kinds)
    (hd : dp + 2 < recursionLimit) (hu : un + 16 < cLine)
    (ret : ∀ l o' kvs' h' tk', o'.IsDictOf (PySem.strKind prog w) kvs' → TimesOf kvs' (updF f k o) → (l == sysModules) = false → Fr h₀ L h' m → News h₀ L h' ((l, o') :: news) → (∀ q ∈ news, q.1 ≠ l) → Q (.ref l) { s with heap := h', toks := tk' }) :
    wpAny (model prog w) (ktrTop dp un gd cn cs L a ccd cl outer) (call (.ref 39) [.ref d, .str k tn, tv]) Q E s := by
  refine wpAny_call ?_
  k_dflt (refine' code_defC ?k1 ?k2 ?k3 ?k4 ?k5 ?kA ?kF ?kK ?k6 ?k7 ?k8 ?k9 ?kB ?kD ?_ ?c2 ?c3 ?c4; (case kA => exact rfl); (case kF => exact rfl); (case kK => assumption); (case k1 => k_asm); (case k2 => k_asm); (case k3 => k_asm); (case k4 => k_asm); (case k5 => k_asm); (case k6 => k_is); (case k7 => k_is); (case k8 => ktr_room); (case k9 => exact BindsTo.of_eq rfl); (case kB => exact rfl); (case kD => decide +kernel); (case c2 => exact rfl); (case c3 => exact rfl); (case c4 => exact rfl); k_whole; intro g' L' h' tk' cells' FG' F' N' Y' B' X' T' l1; k_cells Y'; (try simp only [List.cons_append, List.nil_append] at N'); (try dsimp only); (try k_fold))
  k_steps
  rename Fr _ _ _ _ => F1
  rename News _ _ _ _ => N1
  rename Frag.In _ _ => X1
  refine dict_name (kvs := kvs) (OneJ kvs k _) _ rfl (by decide) rfl rfl (by rw [sizeLine_eq]; have := hf.len; omega) lo (List.mem_cons_of_mem _ (List.mem_cons_of_mem _ hm)) hod F1 N1 ⟨[], .nil, .nil, fun _ hq => hq⟩ ?_ ?_ ?_
  · rintro i ys nx ⟨ps, -, -, hsub⟩
    exact hsub _ (List.mem_cons_of_mem _ (List.mem_cons_of_mem _ hm))
  · rintro i key val hi t ys nx I oI oC m₂ C D h tk ⟨ps, hP, hK, hsub⟩ e1 hC F2 N2 off ne -
    have c1 := hsub _ List.mem_cons_self
    have c2 := hsub _ (List.mem_cons_of_mem _ List.mem_cons_self)
    have c3 := hsub _ (List.mem_cons_of_mem _ (List.mem_cons_of_mem _ hm))
    have hval : valueAt kvs key = some val := valueAt_mem hf.nd (List.mem_of_getElem? hi)
    have n1 := ne.1
    have n2 := ne.2.1
    have n3 := ne.2.2
    k_steps
    · rename _ ∧ _ ∧ _ ∧ AllLt _ _ => l2
      rename (key != k) = true => hne
      refine pair_end (J := OneJ kvs k _ (i + 1)) (by assumption) (by assumption) off ⟨Nat.ne_of_gt l2.1, Nat.ne_of_gt l2.2.1, Nat.ne_of_gt l2.2.2.1⟩ ⟨ps ++ [(.str key t, val)], (hP.mono fun q hq => List.mem_cons_of_mem _ hq).append (.cons List.mem_cons_self .nil), ?_, fun q hq => List.mem_cons_of_mem _ (hsub q hq)⟩
      rw [one_more hi (by simpa using hne)]
      exact hK.append (.cons .nil)
    · rename (key != k) = false => hne
      exact CEnd.stay F2 N2 off ⟨ps, hP, by rw [one_stay hi (by simpa using hne)]; exact hK, hsub⟩
  · refine post_none ?_
    rintro D ys nx h₂ tk₂ F2 N2 off ⟨ps, hP, hK, hsub⟩
    clear F1 N1
    rw [List.take_length] at hK
    have hnd := (hf.drop k).nd
    have hlen : (dropK kvs k).length ≤ 6 := (hf.drop k).len
    have c1 := hsub _ List.mem_cons_self
    dsimp only
    k_steps
    refine dict_pairs rfl F2 N2 (Top.nolimit (by assumption)) List.mem_cons_self (hP.mono fun q hq => List.mem_cons_of_mem _ hq) hK (by rw [sizeLine_eq]; omega) ?_
    intro D₃ o₃ h₃ tk₃ hd₃ lo₃ F3 N3 hlt₃
    clear F2 N2
    rw [merged_nil_of_nodup _ hnd] at hd₃
    have hsz : (dropK kvs k).length ≤ sizeLine := by rw [sizeLine_eq]; omega
    have hn1 : ∀ q ∈ news, q.1 ≠ D₃ := fun q hq => Nat.ne_of_lt (hlt₃ q (List.mem_cons_of_mem _ (hsub q (List.mem_cons_of_mem _ (List.mem_cons_of_mem _ hq)))))
    have hn2 : ∀ q ∈ (D, lst ys) :: nx, q.1 ≠ D₃ := fun q hq => Nat.ne_of_lt (hlt₃ q hq)
    have hs4 : ∀ o, ∀ q ∈ (D₃, o) :: news, q ∈ (D₃, o) :: (D, lst ys) :: nx := by
      intro o q hq
      rcases List.mem_cons.mp hq with rfl | hq
      · exact List.mem_cons_self
      · exact List.mem_cons_of_mem _ (List.mem_cons_of_mem _ (hsub q (List.mem_cons_of_mem _ (List.mem_cons_of_mem _ hq))))
    cases htv with
    | none =>
      k_steps
      rename News _ _ _ _ => N4
      exact ret _ _ _ _ _ hd₃ (hf.drop k) lo₃ (by assumption) (News.sub N4 (hs4 _)) hn1
    | int i t =>
      k_steps
      rename News _ _ _ _ => N4
      rename Obj.IsDictOf _ _ _ => hd₄
      exact ret _ _ _ _ _ hd₄ (hf.put hkk i t) lo₃ (by assumption) (News.sub N4 (hs4 _)) hn1
end
local macro_rules | `(tactic| walk_at "call ref") => `(tactic| (k_here; (with_reducible show wpAny _ _ (call (Value.ref 39) _) _ _ _); k_dflt (refine' with_spec ?B ?F ?X ?T ?k ?N ?hm ?hod ?lo ?hf ?htv ?hkk ?hd ?hu ?_; (case B => k_asm); (case F => k_asm); (case X => k_asm); (case T => k_asm); (case k => exact rfl); (case N => k_asm); (case hm => k_mem); (case hod => k_asm); (case lo => k_asm); (case hf => k_asm); (case htv => k_asm); (case hkk => k_asm); (case hd => ktr_room); (case hu => ktr_units)); intro _ _ _ _ _ hd' hf' lo' F' N' ne'; (try dsimp only)))
local macro_rules | `(tactic| walk_at "call ref") => `(tactic| (k_here; (with_reducible show wpAny _ _ (call (Value.ref 84) _) _ _ _); k_dflt (refine' call_cls ?k1 ?k2 ?k3 ?k4 ?k5 ?k6 ?_; (case k1 => k_asm); (case k2 => k_asm); (case k3 => k_asm); (case k4 => k_is); (case k5 => k_is); (case k6 => k_is); k_whole; intro x' d' h' F' N' l1 l2; (try k_lt l1); (try k_lt2 l2); (try k_sweep); (refine' code_def ?k1 ?k2 ?k3 ?k4 ?k5 ?kA ?kF ?kK ?k6 ?k7 ?k8 ?k9 ?kB ?_ ?c2 ?c3 ?c4 ?c5; (case kA => exact rfl); (case kF => exact rfl); (case kK => exact rfl); (case k1 => k_asm); (case k2 => k_asm); (case k3 => k_asm); (case k4 => k_asm); (case k5 => k_asm); (case k6 => k_is); (case k7 => k_is); (case k8 => ktr_room); (case k9 => exact BindsTo.of_eq rfl); (case c5 => decide); (case kB => exact locs rfl); (case c2 => exact rfl); (case c3 => exact rfl); (case c4 => exact rfl); k_whole; intro g' L' h' FG' F' N' B' X' T'; (try dsimp only); (try k_fold)))))
theorem walk_off_W3 : True := by
  w_top off
  trivial
local macro_rules | `(tactic| k_upd) => `(tactic| (refine' upd_over ?a ?b ?c; (case a => assumption); (case b => k_mem); (case c => assumption)))
section
variable {prog : Program} {w : World} {p : Program} {loose : List Str} {mean : ExcName → Option Value} {mg mb : Str → Option Value}
    {dp un : Nat} {gd : Option (List Code)} {cn : Str} {cs : Scope} {a : Addr} {ccd : Value} {cl : List (Str × Addr)} {outer : List Env} {A₀ : Around} {base h₀ : Heap} {L : Addr} {m : Str → Option Value} {s : Shared} {news : List (Addr × Obj)}
    {Q E : Value → Shared → Prop}
    (B : Below A₀ base outer h₀) (F : Fr h₀ L s.heap m) (X : (Mine.hd.heap_39 w.params).In h₀) (T : Top p loose mean mg mb h₀) (hk : cs.kind = .function) (N : News h₀ L s.heap news)
include B F X T hk N
set_option maxHeartbeats 8000000 in
theorem put_spec {x dx d : Addr} {od : Obj} {kvs : List (Str × Value)} {f : Str → Option Int} {k : Str} {tn t : Tok} {tv : Value} {o : Option Int} {g : Obj → List (Addr × Obj)}
    (hx : (x, instObj 84 dx) ∈ news) (U : UpdF dx (fieldsT w d t) news g)
    (hm : (d, od) ∈ news) (hod : od.IsDictOf (PySem.strKind prog w) kvs) (lo : (d == sysModules) = false) (hf : TimesOf kvs f) (htv : Told tv o) (hkk : k ∈ kinds)
    (hd : dp + 3 < recursionLimit) (hu : un + 24 < cLine)
    (ret : ∀ d' od' kvs' t' h' tk', od'.IsDictOf (PySem.strKind prog w) kvs' → TimesOf kvs' (updF f k o) → (d' == sysModules) = false → Fr h₀ L h' m → News h₀ L h' ((d', od') :: g (fieldsT w d' t')) → (∀ q ∈ news, q.1 ≠ d') → Q .none { s with heap := h', toks := tk' }) :
    wpAny (model prog w) (ktrTop dp un gd cn cs L a ccd cl outer) (call (.ref 60) [.ref x, .str k tn, tv]) Q E s := by
  have hU : ∀ o', Upd dx (fieldsT w d t) o' news (g o') := UpdF.upd U
  have hdx := UpdF.mem U
  refine wpAny_call ?_
  k_dflt ktr_enter
  k_steps
  rename News _ _ _ _ => N4
  exact ret _ _ _ _ _ _ (by assumption) (by assumption) (by assumption) (by assumption) N4 (by assumption)
set_option maxHeartbeats 8000000 in
theorem timeof_spec {x dx d : Addr} {od : Obj} {kvs : List (Str × Value)} {f : Str → Option Int} {k : Str} {tn t : Tok}
    (hx : (x, instObj 84 dx) ∈ news) (hdx : (dx, fieldsT w d t) ∈ news)
    (hm : (d, od) ∈ news) (hod : od.IsDictOf (PySem.strKind prog w) kvs) (lo : (d == sysModules) = false) (hf : TimesOf kvs f)
    (hd : dp + 3 < recursionLimit) (hu : un + 24 < cLine)
    (ret : ∀ v h' tk', Told v (f k) → Fr h₀ L h' m → News h₀ L h' news → Q v { s with heap := h', toks := tk' }) :
    wpAny (model prog w) (ktrTop dp un gd cn cs L a ccd cl outer) (call (.ref 67) [.ref x, .str k tn]) Q E s := by
  refine wpAny_call ?_
  k_dflt ktr_enter
  k_steps
  all_goals (rename News _ _ _ _ => N4)
  · exact ret _ _ _ (by rw [show f k = none by assumption]; exact .none) (by assumption) N4
  · exact ret _ _ _ (by rw [show f k = some _ by assumption]; exact .int _ _) (by assumption) N4
end
local macro_rules | `(tactic| walk_at "call ref") => `(tactic| (k_here; (with_reducible show wpAny _ _ (call (Value.ref 60) _) _ _ _); k_dflt (refine' put_spec ?B ?F ?X ?T ?k ?N ?hx ?U ?hm ?hod ?lo ?hf ?htv ?hkk ?hd ?hu ?_; (case B => k_asm); (case F => k_asm); (case X => k_asm); (case T => k_asm); (case k => exact rfl); (case N => k_asm); (case hx => k_mem); (case U => k_updF); (case hm => k_mem); (case hod => k_asm); (case lo => k_asm); (case hf => k_asm); (case htv => k_asm); (case hkk => k_asm); (case hd => ktr_room); (case hu => ktr_units)); intro _ _ _ _ _ _ hd' hf' lo' F' N' ne'; (try dsimp only)))
local macro_rules | `(tactic| walk_at "call ref") => `(tactic| (k_here; (with_reducible show wpAny _ _ (call (Value.ref 67) _) _ _ _); k_dflt (refine' timeof_spec ?B ?F ?X ?T ?k ?N ?hx ?U ?hm ?hod ?lo ?hf ?hd ?hu ?_; (case B => k_asm); (case F => k_asm); (case X => k_asm); (case T => k_asm); (case k => exact rfl); (case N => k_asm); (case hx => k_mem); (case U => k_mem); (case hm => k_mem); (case hod => k_asm); (case lo => k_asm); (case hf => k_asm); (case hd => ktr_room); (case hu => ktr_units)); intro _ _ _ td' F' N'; (try dsimp only)))
theorem walk_off_W4 : True := by
  w_top off
  trivial
section
variable {prog : Program} {w : World} {p : Program} {loose : List Str} {mean : ExcName → Option Value} {mg mb : Str → Option Value}
    {dp un : Nat} {gd : Option (List Code)} {cn : Str} {cs : Scope} {a : Addr} {ccd : Value} {cl : List (Str × Addr)} {outer : List Env} {A₀ : Around} {base h₀ : Heap} {L : Addr} {m : Str → Option Value} {s : Shared} {news : List (Addr × Obj)}
    {Q E : Value → Shared → Prop}
    (B : Below A₀ base outer h₀) (F : Fr h₀ L s.heap m) (X : (Mine.hd.heap_39 w.params).In h₀) (T : Top p loose mean mg mb h₀) (hk : cs.kind = .function) (N : News h₀ L s.heap news)
include B F X T hk N
set_option maxHeartbeats 8000000 in
theorem next_spec {d : Addr} {od : Obj} {kvs : List (Str × Value)} {f : Str → Option Int}
    (hm : (d, od) ∈ news) (hod : od.IsDictOf (PySem.strKind prog w) kvs) (lo : (d == sysModules) = false) (hf : TimesOf kvs f)
    (hd : dp + 2 < recursionLimit) (hu : un + 16 < cLine)
    (ret0 : ∀ h' tk', (∀ j, j < 6 → f (kindAt j) = none) → Fr h₀ L h' m → News h₀ L h' news → Q .none { s with heap := h', toks := tk' })
    (ret1 : ∀ D c t u z h' tk', IsLeast f 6 t → Fr h₀ L h' m → News h₀ L h' ((D, ({ cls := .type "tuple", data := .seq #[.int t u, z] c } : Obj)) :: news) → (∀ q ∈ news, q.1 ≠ D) → Q (.ref D) { s with heap := h', toks := tk' }) :
    wpAny (model prog w) (ktrTop dp un gd cn cs L a ccd cl outer) (call (.ref 29) [.ref d]) Q E s := by
  refine wpAny_call ?_
  k_dflt ktr_enter
  k_steps
  rename Fr _ _ _ _ => F1
  rename News _ _ _ _ => N1
  rename Frag.In _ _ => X1
  obtain ⟨kv, hkv, hsrc⟩ := kinds_src X1
  refine iter_name (tup := true) [Str.ofString "kind", Str.ofString "told", Str.ofString "found"] (NextJ f news) rfl rfl rfl (hsrc _) F1 N1 ⟨_, rfl, .none fun j hj => absurd hj (Nat.not_lt_zero _), fun _ h => h⟩ (fun _ _ _ _ => hsrc _) ?_ ?_
  · rintro i v u nx I oI h tk₁ hv ⟨vf, hvf, hfd, hsub⟩ hI F2 N2
    replace F2 := Fr.name (Fr.as F1 F2) hvf
    replace N2 := News.as F1 N2
    clear F1 N1
    have hi : i < kinds.length := by
      obtain ⟨hi, _⟩ := Array.getElem?_eq_some_iff.mp hv
      rw [← strs_len hkv]; simpa using hi
    obtain ⟨ut, hut⟩ := strs_get hkv i hi
    rw [List.getElem?_toArray, hut] at hv
    cases hv
    have hmd := hsub _ hm
    cases hfd with
    | none hno =>
      k_steps
      all_goals (rename Fr _ _ _ _ => F3; rename News _ _ _ _ => N3)
      · have e : f (kindAt i) = none := by rw [kindAt_eq hi]; assumption
        exact turn_stay F3 N3 hI (by intro z hz; repeat (first | exact frM_out hz | refine (if_neg (free_ne hz (by rfl))).trans ?_)) ⟨_, rfl, .none (none_more hno e), hsub⟩
      · rename _ ∧ AllLt _ _ => l1
        rename f _ = some _ => e
        rw [← kindAt_eq hi] at e
        exact turn_one F3 N3 hI (Nat.ne_of_gt l1.1) (by intro z hz; repeat (first | exact frM_out hz | refine (if_neg (free_ne hz (by rfl))).trans ?_)) ⟨_, rfl, .some List.mem_cons_self (fun q hq => allLt_ne l1.2 q (hsub q hq)) (least_new (fun j hj t' e => by rw [hno j hj] at e; cases e) e), fun q hq => List.mem_cons_of_mem _ (hsub q hq)⟩
    | some hmem hfr hle =>
      k_steps
      all_goals (rename Fr _ _ _ _ => F3; rename News _ _ _ _ => N3)
      · have e : f (kindAt i) = none := by rw [kindAt_eq hi]; assumption
        exact turn_stay F3 N3 hI (by intro z hz; repeat (first | exact frM_out hz | refine (if_neg (free_ne hz (by rfl))).trans ?_)) ⟨_, rfl, .some hmem hfr (hle.more fun t' e' => by rw [e] at e'; cases e'), hsub⟩
      · rename _ ∧ AllLt _ _ => l1
        rename f _ = some _ => e
        rw [← kindAt_eq hi] at e
        exact turn_one F3 N3 hI (Nat.ne_of_gt l1.1) (by intro z hz; repeat (first | exact frM_out hz | refine (if_neg (free_ne hz (by rfl))).trans ?_)) ⟨_, rfl, .some List.mem_cons_self (fun q hq => allLt_ne l1.2 q (hsub q hq)) (least_new (fun j hj t' e => by have := hle.2 j hj t' e; omega) e), fun q hq => List.mem_cons_of_mem _ (hsub q hq)⟩
      · rename f _ = some _ => e
        rw [← kindAt_eq hi] at e
        exact turn_stay F3 N3 hI (by intro z hz; repeat (first | exact frM_out hz | refine (if_neg (free_ne hz (by rfl))).trans ?_)) ⟨_, rfl, .some hmem hfr (hle.more fun t' e' => by rw [e] at e'; cases e'; omega), hsub⟩
  · rintro h₂ tk₂ u nx F2 N2 ⟨vf, hvf, hfd, hsub⟩
    replace F2 := Fr.name0 (Fr.as F1 F2) hvf
    replace N2 := News.as F1 N2
    clear F1 N1
    have hz : kv.toArray.size = 6 := by rw [List.size_toArray, strs_len hkv]; rfl
    rw [hz] at hfd
    cases hfd with
    | none hno =>
      dsimp only
      k_steps
      rename News _ _ _ _ => N4
      exact ret0 _ _ hno (by assumption) (News.sub N4 hsub)
    | some hmem hfr hle =>
      dsimp only
      k_steps
      rename News _ _ _ _ => N4
      exact ret1 _ _ _ _ _ _ _ hle (by assumption) (news_pick N4 hmem hsub) hfr
end
local macro_rules | `(tactic| walk_at "call ref") => `(tactic| (k_here; (with_reducible show wpAny _ _ (call (Value.ref 29) _) _ _ _); k_dflt (refine' next_spec ?B ?F ?X ?T ?k ?N ?hm ?hod ?lo ?hf ?hd ?hu ?r0 ?r1; (case B => k_asm); (case F => k_asm); (case X => k_asm); (case T => k_asm); (case k => exact rfl); (case N => k_asm); (case hm => k_mem); (case hod => k_asm); (case lo => k_asm); (case hf => k_asm); (case hd => ktr_room); (case hu => ktr_units)) <;> intros <;> (try dsimp only)))
section
variable {prog : Program} {w : World} {p : Program} {loose : List Str} {mean : ExcName → Option Value} {mg mb : Str → Option Value}
    {dp un : Nat} {gd : Option (List Code)} {cn : Str} {cs : Scope} {a : Addr} {ccd : Value} {cl : List (Str × Addr)} {outer : List Env} {A₀ : Around} {base h₀ : Heap} {L : Addr} {m : Str → Option Value} {s : Shared} {news : List (Addr × Obj)}
    {Q E : Value → Shared → Prop}
    (B : Below A₀ base outer h₀) (F : Fr h₀ L s.heap m) (X : (Mine.hd.heap_39 w.params).In h₀) (T : Top p loose mean mg mb h₀) (hk : cs.kind = .function) (N : News h₀ L s.heap news)
include B F X T hk N
set_option maxHeartbeats 8000000 in
theorem first_spec {x dx d : Addr} {od : Obj} {kvs : List (Str × Value)} {f : Str → Option Int} {t : Tok}
    (hx : (x, instObj 84 dx) ∈ news) (hdx : (dx, fieldsT w d t) ∈ news)
    (hm : (d, od) ∈ news) (hod : od.IsDictOf (PySem.strKind prog w) kvs) (lo : (d == sysModules) = false) (hf : TimesOf kvs f)
    (hd : dp + 3 < recursionLimit) (hu : un + 24 < cLine)
    (ret : ∀ v o h' tk', Told v o → IsFirst f o → Fr h₀ L h' m → News h₀ L h' news → Q v { s with heap := h', toks := tk' }) :
    wpAny (model prog w) (ktrTop dp un gd cn cs L a ccd cl outer) (call (.ref 74) [.ref x]) Q E s := by
  refine wpAny_call ?_
  k_dflt ktr_enter
  k_steps
  all_goals (rename News _ _ _ _ => N4)
  · exact ret _ none _ _ .none (by assumption) (by assumption) N4
  · exact ret _ (some _) _ _ (.int _ _) (by assumption) (by assumption) (News.sub N4 fun q hq => List.mem_cons_of_mem _ hq)
end
local macro_rules | `(tactic| walk_at "call ref") => `(tactic| (k_here; (with_reducible show wpAny _ _ (call (Value.ref 74) _) _ _ _); k_dflt (refine' first_spec ?B ?F ?X ?T ?k ?N ?hx ?U ?hm ?hod ?lo ?hf ?hd ?hu ?_; (case B => k_asm); (case F => k_asm); (case X => k_asm); (case T => k_asm); (case k => exact rfl); (case N => k_asm); (case hx => k_mem); (case U => k_mem); (case hm => k_mem); (case hod => k_asm); (case lo => k_asm); (case hf => k_asm); (case hd => ktr_room); (case hu => ktr_units)); intro _ _ _ _ td' fi' F' N'; (try dsimp only)))
theorem walk_off_W5 : True := by
  w_top off
  trivial
local macro_rules | `(tactic| walk_at "call ref") => `(tactic| (k_here; (with_reducible show wpAny _ _ (call (Value.ref 34) _) _ _ _); k_dflt (refine' all_due_spec ?B ?F ?X ?T ?k ?N ?hm ?hod ?lo ?hf ?hd ?hu ?_; (case B => k_asm); (case F => k_asm); (case X => k_asm); (case T => k_asm); (case k => exact rfl); (case N => k_asm); (case hm => k_mem); (case hod => k_asm); (case lo => k_asm); (case hf => k_asm); (case hd => ktr_room); (case hu => ktr_units)); intro _ _ _ _ _ _ due' st' F' N' ne'; (try dsimp only)))
section
variable {prog : Program} {w : World} {p : Program} {loose : List Str} {mean : ExcName → Option Value} {mg mb : Str → Option Value}
    {dp un : Nat} {gd : Option (List Code)} {cn : Str} {cs : Scope} {a : Addr} {ccd : Value} {cl : List (Str × Addr)} {outer : List Env} {A₀ : Around} {base h₀ : Heap} {L : Addr} {m : Str → Option Value} {s : Shared} {news : List (Addr × Obj)}
    {Q E : Value → Shared → Prop}
    (B : Below A₀ base outer h₀) (F : Fr h₀ L s.heap m) (X : (Mine.hd.heap_39 w.params).In h₀) (T : Top p loose mean mg mb h₀) (hk : cs.kind = .function) (N : News h₀ L s.heap news)
include B F X T hk N
theorem putm_spec {x dx : Addr} {f : Str → Option Int} {k : Str} {tn : Tok} {tv : Value} {o : Option Int}
    (hA : AlarmIn prog w x dx f news) (htv : Told tv o) (hkk : k ∈ kinds)
    (hd : dp + 3 < recursionLimit) (hu : un + 24 < cLine)
    (ret : ∀ d nx h' tk', AlarmAt prog w x dx d (updF f k o) nx → Fr h₀ L h' m → News h₀ L h' nx → (∀ q ∈ news, q.1 ≠ dx → q ∈ nx) → (∀ q ∈ news, q.1 ≠ d) → Q .none { s with heap := h', toks := tk' }) :
    wpAny (model prog w) (ktrTop dp un gd cn cs L a ccd cl outer) (call (.ref 60) [.ref x, .str k tn, tv]) Q E s := by
  obtain ⟨d, t, od, kvs, a1, a2, a3, hod, lo, hf, n1, n2⟩ := hA
  refine put_spec B F X T hk (news_front N a2) (List.mem_cons_of_mem _ (avoid_mem a1 n2)) (.head fun q hq => (avoid_of hq).2) (List.mem_cons_of_mem _ (avoid_mem a3 n1)) hod lo hf htv hkk hd hu ?_
  intro d' od' kvs' t' h' tk' hod' hf' lo' F' N' fr
  refine ret d' _ _ _ ⟨t', od', kvs', ?_, ?_, ?_, hod', lo', hf', ?_, n2⟩ F' N' ?_ ?_
  · exact List.mem_cons_of_mem _ (List.mem_cons_of_mem _ (avoid_mem a1 n2))
  · exact List.mem_cons_of_mem _ List.mem_cons_self
  · exact List.mem_cons_self
  · exact fun e => fr _ List.mem_cons_self e.symm
  · exact fun q hq hn => List.mem_cons_of_mem _ (List.mem_cons_of_mem _ (avoid_mem hq hn))
  · intro q hq
    by_cases e : q.1 = dx
    · rw [e]; exact fun e' => fr _ List.mem_cons_self e'
    · exact fr _ (List.mem_cons_of_mem _ (avoid_mem hq e))
end
local macro_rules | `(tactic| walk_at "call ref") => `(tactic| (k_here; (with_reducible show wpAny _ _ (call (Value.ref 60) _) _ _ _); k_dflt (refine' putm_spec ?B ?F ?X ?T ?k ?N ?hA ?htv ?hkk ?hd ?hu ?_; (case B => k_asm); (case F => k_asm); (case X => k_asm); (case T => k_asm); (case k => exact rfl); (case N => k_asm); (case hA => with_reducible assumption); (case htv => first | with_reducible assumption | exact .none | exact .int _ _); (case hkk => with_reducible assumption); (case hd => ktr_room); (case hu => ktr_units)); intro _ _ _ _ al' F' N' sub' ne'; (try dsimp only)))
section
variable {prog : Program} {w : World} {p : Program} {loose : List Str} {mean : ExcName → Option Value} {mg mb : Str → Option Value}
    {dp un : Nat} {gd : Option (List Code)} {cn : Str} {cs : Scope} {a : Addr} {ccd : Value} {cl : List (Str × Addr)} {outer : List Env} {A₀ : Around} {base h₀ : Heap} {L : Addr} {m : Str → Option Value} {s : Shared} {news : List (Addr × Obj)}
    {Q E : Value → Shared → Prop}
    (B : Below A₀ base outer h₀) (F : Fr h₀ L s.heap m) (X : (Mine.hd.heap_39 w.params).In h₀) (T : Top p loose mean mg mb h₀) (hk : cs.kind = .function) (N : News h₀ L s.heap news)
include B F X T hk N
set_option maxHeartbeats 8000000 in
theorem take_spec {x dx : Addr} {f : Str → Option Int} {now : Int} {tn : Tok}
    (hA : AlarmIn prog w x dx f news)
    (hd : dp + 4 < recursionLimit) (hu : un + 32 < cLine)
    (ret : ∀ l vs ds n nx h' tk', IsDue f now ds → StrsAre vs ds → AlarmIn prog w x dx (remF f ds) nx → Fr h₀ L h' m → News h₀ L h' nx → (l, PySem.W.listOf (List.toArray vs) n) ∈ nx → (∀ q ∈ news, q.1 ≠ dx → q ∈ nx) → (∀ q ∈ news, q.1 ≠ l) → Q (.ref l) { s with heap := h', toks := tk' }) :
    wpAny (model prog w) (ktrTop dp un gd cn cs L a ccd cl outer) (call (.ref 81) [.ref x, .int now tn]) Q E s := by
  obtain ⟨d, t, od, kvs, a1, a2, a3, hod, lo, hf, n1, n2⟩ := hA
  refine wpAny_call ?_
  k_dflt ktr_enter
  k_steps
  rename Fr _ _ _ _ => F1
  rename News _ _ _ _ => N1
  rename Frag.In _ _ => X1
  rename IsDue _ _ _ => hdue
  rename StrsAre _ _ => hst
  rename ∀ q ∈ news, q.1 ≠ _ => hne
  have hlen := strs_len hst
  have hld := Ne.symm (hne _ a2)
  rename List Str => ds
  refine iter_name (tup := false) [Str.ofString "kind"] (TakeJ prog w x dx f news _ _ _ ds) rfl rfl rfl (Src.of_list List.mem_cons_self) F1 N1 ⟨?_, List.mem_cons_self, fun q hq _ => List.mem_cons_of_mem _ hq⟩ (fun i m' nx hJ => Src.of_list hJ.2.1) ?_ ?_
  · rw [List.take_zero, remF_nil]
    exact ⟨d, t, od, kvs, List.mem_cons_of_mem _ a1, List.mem_cons_of_mem _ a2, List.mem_cons_of_mem _ a3, hod, lo, hf, n1, n2⟩
  · rintro i v u nx I oI h tk₁ hv ⟨hA, hl, hsub⟩ hI F2 N2
    replace F2 := Fr.as F1 F2
    replace N2 := News.as F1 N2
    clear F1 N1 a1 a2 a3 hod hf lo
    obtain ⟨hi, _⟩ := Array.getElem?_eq_some_iff.mp hv
    rw [List.size_toArray, hlen] at hi
    obtain ⟨ut, hut⟩ := strs_get hst i hi
    rw [List.getElem?_toArray, hut] at hv
    cases hv
    have hkk := hdue.mem _ (List.getElem_mem hi)
    have hA' := hA.mono (nx' := (I, oI) :: nx) fun q hq => List.mem_cons_of_mem _ hq
    obtain ⟨_, _, _, _, b1, b2, -⟩ := id hA
    k_steps
    rename AlarmAt _ _ _ _ _ _ _ => al
    rename ∀ q ∈ (I, oI) :: nx, q.1 ≠ dx → _ => sub
    rename ∀ q ∈ (I, oI) :: nx, q.1 ≠ _ => ne
    rename Fr _ _ _ _ => F3
    rename News _ _ _ _ => N3
    have al2 := AlarmIn.intro (al.avoid (hI _ b1) (hI _ b2) fun e' => ne _ List.mem_cons_self e'.symm)
    refine TurnEnd.mk (nx := avoid _ I) F3 N3 (sub _ List.mem_cons_self fun e => hI _ b2 e.symm) (fun q hq => (avoid_of hq).1) (fun q hq => (avoid_of hq).2) ⟨fun z hz => ?_, ?_, ?_, ?_⟩
    · repeat (first | exact frM_out hz | refine (if_neg (free_ne hz (by rfl))).trans ?_)
    · rw [List.take_succ_eq_append_getElem hi, remF_snoc]
      exact al2
    · exact avoid_mem (sub _ (List.mem_cons_of_mem _ hl) hld) (hI _ hl)
    · exact fun q hq hn => avoid_mem (sub _ (List.mem_cons_of_mem _ (hsub q hq hn)) hn) (hI _ (hsub q hq hn))
  · rintro h₂ tk₂ u nx F2 N2 ⟨hA, hl, hsub⟩
    replace F2 := Fr.as F1 F2
    replace N2 := News.as F1 N2
    clear F1 N1 a1 a2 a3 hod hf lo
    rw [List.size_toArray, hlen, List.take_length] at hA
    dsimp only
    k_steps
    rename News _ _ _ _ => N4
    exact ret _ _ _ _ _ _ _ hdue hst hA (by assumption) N4 hl hsub hne
end
theorem walk_off_W6 : True := by
  w_top off
  trivial
section
variable {prog : Program} {w : World} {p : Program} {loose : List Str} {mean : ExcName → Option Value} {mg mb : Str → Option Value}
    {dp un : Nat} {gd : Option (List Code)} {cn : Str} {cs : Scope} {a : Addr} {ccd : Value} {cl : List (Str × Addr)} {outer : List Env} {A₀ : Around} {base h₀ : Heap} {L : Addr} {m : Str → Option Value} {s : Shared} {news : List (Addr × Obj)}
    {Q E : Value → Shared → Prop}
    (B : Below A₀ base outer h₀) (F : Fr h₀ L s.heap m) (X : (Mine.hd.heap_39 w.params).In h₀) (T : Top p loose mean mg mb h₀) (hk : cs.kind = .function) (N : News h₀ L s.heap news)
include B F X T hk N
set_option maxHeartbeats 8000000 in
theorem made_spec {r : Addr} {vs : List Value} {ps : List (Value × Value)} {rows : List (Str × Option Int)} {more : Int} {tm : Tok} {nr : Nat}
    (hr : (r, PySem.W.listOf (List.toArray vs) nr) ∈ news) (hP : PairsAre news vs ps) (hR : RowsAre ps rows)
    (hd : dp + 5 < recursionLimit) (hu : un + 40 < cLine)
    (ret : ∀ x dx d nx h' tk', AlarmAt prog w x dx d (madeF rows more) nx → Fr h₀ L h' m → News h₀ L h' nx → (∀ q ∈ news, q ∈ nx) → (∀ q ∈ news, q.1 ≠ x ∧ q.1 ≠ dx ∧ q.1 ≠ d) → Q (.ref x) { s with heap := h', toks := tk' }) :
    wpAny (model prog w) (ktrTop dp un gd cn cs L a ccd cl outer) (call (.ref 102) [.ref r, .int more tm]) Q E s := by
  have hl1 := hP.length
  have hl2 := hR.length
  refine wpAny_call ?_
  k_dflt ktr_enter
  k_steps
  k_here
  refine For_code ?_
  k_steps
  rename Fr _ _ _ _ => F1
  rename News _ _ _ _ => N1
  rename Frag.In _ _ => X1
  rename ∀ q ∈ news, q.1 < _ => q1
  rename _ < _ => q2
  rename (_ == sysModules) = false => lo
  rename Obj.IsDictOf (PySem.strKind prog w) _ [] => hod
  rename _ < _ ∧ _ < _ ∧ AllLt _ _ => q3
  have hfr : ∀ q ∈ news, q.1 ≠ _ ∧ q.1 ≠ _ := fun q hq => ⟨Nat.ne_of_lt (Nat.lt_trans (q1 q hq) q2), Nat.ne_of_lt (q1 q hq)⟩
  refine iter_pair (tup := false) [Str.ofString "kind", Str.ofString "told"] (MadeJ prog w rows more news _ _) (fun i v₁ v₂ => ∃ hi : i < rows.length, ∃ t, v₁ = .str (rows[i]).1 t ∧ (rows[i]).1 ∈ kinds ∧ Told v₂ (rows[i]).2) rfl rfl rfl rfl (Src.of_list (List.mem_cons_of_mem _ (List.mem_cons_of_mem _ (List.mem_cons_of_mem _ hr)))) F1 N1
    ⟨_, ⟨_, _, [], .tail _ (.head _), .tail _ (.tail _ (.head _)), .head _, hod, lo, TimesOf.nil, Nat.ne_of_gt q3.2.1, Nat.ne_of_gt q2⟩, fun q hq => .tail _ (.tail _ (.tail _ hq)), fun q hq => allLt_ne q3.2.2 q hq⟩ ?_ ?_ ?_ ?_
  · rintro i m' nx ⟨_, -, hsub, -⟩
    exact Src.of_list (hsub _ hr)
  · rintro i v m' nx hv ⟨_, -, hsub, -⟩
    have hi : i < vs.length := by
      obtain ⟨hi, _⟩ := Array.getElem?_eq_some_iff.mp hv
      simpa using hi
    obtain ⟨a, n, e1, e2⟩ := hP.get i (by omega)
    obtain ⟨hkk, t, v₂, e3, htd⟩ := hR.get i (by omega) (by omega)
    rw [List.getElem?_toArray, e1] at hv
    cases hv
    rw [e3] at e2
    exact ⟨a, _, _, rfl, ⟨by omega, t, rfl, hkk, htd⟩, Src.of_pair (hsub _ e2)⟩
  · rintro i v₁ v₂ u nx I oI h tk₁ hi' ⟨hi, t, rfl, hkk, htd⟩ ⟨d₁, hA, hsub, hnd⟩ hI F2 N2
    replace F2 := Fr.as F1 F2
    replace N2 := News.as F1 N2
    clear F1 N1
    have hA' := AlarmIn.intro (hA.mono (nx' := (I, oI) :: nx) fun q hq _ => List.mem_cons_of_mem _ hq)
    obtain ⟨_, _, _, b1, b2, -⟩ := id hA
    generalize ho : (rows[i]).2 = o at htd
    cases htd with
    | none =>
      k_steps
      rename AlarmAt _ _ _ _ _ _ _ => al
      rename ∀ q ∈ (I, oI) :: nx, q.1 ≠ _ → _ => sub
      rename ∀ q ∈ (I, oI) :: nx, q.1 ≠ _ => ne
      rename Fr _ _ _ _ => F3
      rename News _ _ _ _ => N3
      exact made_turn F3 N3 hi hI hsub b1 b2 (fun q hq => (hfr q hq).2) al (by rw [ho]; rfl) sub ne (by intro z hz; repeat (first | exact frM_out hz | refine (if_neg (free_ne hz (by rfl))).trans ?_))
    | int j u =>
      k_steps
      rename AlarmAt _ _ _ _ _ _ _ => al
      rename ∀ q ∈ (I, oI) :: nx, q.1 ≠ _ → _ => sub
      rename ∀ q ∈ (I, oI) :: nx, q.1 ≠ _ => ne
      rename Fr _ _ _ _ => F3
      rename News _ _ _ _ => N3
      exact made_turn F3 N3 hi hI hsub b1 b2 (fun q hq => (hfr q hq).2) al (by rw [ho]; rfl) sub ne (by intro z hz; repeat (first | exact frM_out hz | refine (if_neg (free_ne hz (by rfl))).trans ?_))
  · rintro h₂ tk₂ u nx F2 N2 ⟨d₁, hA, hsub, hnd⟩
    replace F2 := Fr.as F1 F2
    replace N2 := News.as F1 N2
    clear F1 N1
    rw [List.size_toArray, hl1, hl2, List.take_length] at hA
    dsimp only
    k_steps
    rename News _ _ _ _ => N4
    exact ret _ _ _ _ _ _ hA (by assumption) N4 hsub fun q hq => ⟨(hfr q hq).1, (hfr q hq).2, hnd q hq⟩
end
theorem walk_off_W7 : True := by
  w_top off
  trivial
section
variable {prog : Program} {w : World} {p : Program} {loose : List Str} {mean : ExcName → Option Value} {mg mb : Str → Option Value}
    {dp un : Nat} {gd : Option (List Code)} {cn : Str} {cs : Scope} {a : Addr} {ccd : Value} {cl : List (Str × Addr)} {outer : List Env} {A₀ : Around} {base h₀ : Heap} {L : Addr} {m : Str → Option Value} {s : Shared} {news : List (Addr × Obj)}
    {Q E : Value → Shared → Prop}
    (B : Below A₀ base outer h₀) (F : Fr h₀ L s.heap m) (X : (Mine.hd.heap_39 w.params).In h₀) (T : Top p loose mean mg mb h₀) (hk : cs.kind = .function) 
include B F X T hk
set_option maxHeartbeats 8000000 in
theorem drawn_core {b l : Addr} {vs : List Value} {ns : List Int} {k many : Int} {tk tm : Tok} {nb nl : Nat} {rest : List (Addr × Obj)}
    (N : News h₀ L s.heap ((b, PySem.W.listOf #[.ref l, .int k tk] nb) :: (l, PySem.W.listOf vs.toArray nl) :: rest)) (hI : IntsAre vs ns) (hbl : l ≠ b) (hr : ∀ p ∈ rest, p.1 ≠ b)
    (hk0 : 0 ≤ k) (hk1 : k < 1000) (hm0 : 0 < many) (hm1 : many < 100) (hlen : ns.length < 1000)
    (hd : dp + 1 < recursionLimit) (hu : un + 8 < cLine)
    (ret : ∀ d t t' n' h' tk', 0 ≤ d → d < many → Fr h₀ L h' m → News h₀ L h' ((b, PySem.W.listOf #[.ref l, .int (k + 1) t'] n') :: (l, PySem.W.listOf vs.toArray nl) :: rest) → Q (.int d t) { s with heap := h', toks := tk' }) :
    wpAny (model prog w) (ktrTop dp un gd cn cs L a ccd cl outer) (call (.ref 95) [.ref b, .int many tm]) Q E s := by
  refine wpAny_call ?_
  k_dflt ktr_enter
  k_steps
  all_goals (rename News _ _ _ _ => N4)
  · exact ret _ _ _ _ _ _ (Int.fmod_nonneg_of_pos _ hm0) (Int.fmod_lt_of_pos _ hm0) (by assumption) N4
  · exact ret _ _ _ _ _ _ (Int.fmod_nonneg_of_pos _ hm0) (Int.fmod_lt_of_pos _ hm0) (by assumption) N4
end
section
variable {prog : Program} {w : World} {p : Program} {loose : List Str} {mean : ExcName → Option Value} {mg mb : Str → Option Value}
    {dp un : Nat} {gd : Option (List Code)} {cn : Str} {cs : Scope} {a : Addr} {ccd : Value} {cl : List (Str × Addr)} {outer : List Env} {A₀ : Around} {base h₀ : Heap} {L : Addr} {m : Str → Option Value} {s : Shared} {news : List (Addr × Obj)}
    {Q E : Value → Shared → Prop}
    (B : Below A₀ base outer h₀) (F : Fr h₀ L s.heap m) (X : (Mine.hd.heap_39 w.params).In h₀) (T : Top p loose mean mg mb h₀) (hk : cs.kind = .function) (N : News h₀ L s.heap news)
include B F X T hk N
theorem drawn_spec {b l : Addr} {vs : List Value} {ns : List Int} {k many : Int} {tk tm : Tok} {nb nl : Nat} {g : Obj → List (Addr × Obj)}
    (U : UpdF b (PySem.W.listOf #[.ref l, .int k tk] nb) news g) (hl : (l, PySem.W.listOf vs.toArray nl) ∈ news) (hI : IntsAre vs ns) (hbl : l ≠ b)
    (hk0 : 0 ≤ k) (hk1 : k < 1000) (hm0 : 0 < many) (hm1 : many < 100) (hlen : ns.length < 1000)
    (hd : dp + 1 < recursionLimit) (hu : un + 8 < cLine)
    (ret : ∀ d t t' n' h' tk', 0 ≤ d → d < many → Fr h₀ L h' m → News h₀ L h' (g (PySem.W.listOf #[.ref l, .int (k + 1) t'] n')) → Q (.int d t) { s with heap := h', toks := tk' }) :
    wpAny (model prog w) (ktrTop dp un gd cn cs L a ccd cl outer) (call (.ref 95) [.ref b, .int many tm]) Q E s := by
  have hb := UpdF.mem U
  refine drawn_core B F X T hk (tk := tk) (nb := nb) (nl := nl) (rest := avoid news b) (News.sub N fun q hq => ?_) hI hbl (fun q hq => (avoid_of hq).2) hk0 hk1 hm0 hm1 hlen hd hu ?_
  · rcases List.mem_cons.mp hq with rfl | hq
    · exact hb
    · rcases List.mem_cons.mp hq with rfl | hq
      · exact hl
      · exact (avoid_of hq).1
  · intro d t t' n' h' tk' h0 h1 F' N'
    refine ret d t t' n' h' tk' h0 h1 F' (News.sub N' fun q hq => ?_)
    rcases UpdF.of U hq with rfl | ⟨h2, h3⟩
    · exact List.mem_cons_self
    · exact List.mem_cons_of_mem _ (List.mem_cons_of_mem _ (avoid_mem h2 h3))
end
local macro_rules | `(tactic| walk_at "call ref") => `(tactic| (k_here; (with_reducible show wpAny _ _ (call (Value.ref 95) _) _ _ _); k_dflt (refine' drawn_spec ?B ?F ?X ?T ?k ?N ?U ?hl ?hI ?hbl ?hk0 ?hk1 ?hm0 ?hm1 ?hlen ?hd ?hu ?_; (case B => k_asm); (case F => k_asm); (case X => k_asm); (case T => k_asm); (case k => exact rfl); (case N => k_asm); (case U => k_updF); (case hl => k_mem); (case hI => k_asm); (case hbl => first | assumption | k_ne); (case hk0 => omega); (case hk1 => omega); (case hm0 => omega); (case hm1 => omega); (case hlen => omega); (case hd => ktr_room); (case hu => ktr_units)); intro _ _ _ _ _ _ lo' hi' F' N'; (try dsimp only)))
theorem walk_off_W7b : True := by
  w_top off
  trivial
theorem Hold.open {P : Prop} (h : Hold P) : P := h
theorem Hold.mk {P : Prop} (h : P) : Hold P := h
section
variable {prog : Program} {w : World} {p : Program} {loose : List Str} {mean : ExcName → Option Value} {mg mb : Str → Option Value}
    {dp un : Nat} {gd : Option (List Code)} {cn : Str} {cs : Scope} {a : Addr} {ccd : Value} {cl : List (Str × Addr)} {outer : List Env} {A₀ : Around} {base h₀ : Heap} {L : Addr} {m : Str → Option Value} {s : Shared} {news : List (Addr × Obj)}
    {Q E : Value → Shared → Prop}
    (B : Below A₀ base outer h₀) (F : Fr h₀ L s.heap m) (X : (Mine.hd.heap_39 w.params).In h₀) (T : Top p loose mean mg mb h₀) (hk : cs.kind = .function) (N : News h₀ L s.heap news)
include B F X T hk N
theorem timeof2_spec {x dx : Addr} {f : Str → Option Int} {k : Str} {tn : Tok} (hA : AlarmIn prog w x dx f news)
    (hd : dp + 3 < recursionLimit) (hu : un + 24 < cLine)
    (ret0 : ∀ h' tk', f k = none → Fr h₀ L h' m → News h₀ L h' news → Q .none { s with heap := h', toks := tk' })
    (ret1 : ∀ i u h' tk', f k = some i → Fr h₀ L h' m → News h₀ L h' news → Q (.int i u) { s with heap := h', toks := tk' }) :
    wpAny (model prog w) (ktrTop dp un gd cn cs L a ccd cl outer) (call (.ref 67) [.ref x, .str k tn]) Q E s := by
  obtain ⟨d, t, od, kvs, a1, a2, a3, hod, lo, hf, n1, n2⟩ := hA
  refine timeof_spec B F X T hk N a1 a2 a3 hod lo hf hd hu ?_
  intro v h' tk' td F' N'
  generalize e : f k = o at td
  cases td with
  | none => exact ret0 _ _ e F' N'
  | int i u => exact ret1 _ _ _ _ e F' N'
theorem first2_spec {x dx : Addr} {f : Str → Option Int} (hA : AlarmIn prog w x dx f news)
    (hd : dp + 3 < recursionLimit) (hu : un + 24 < cLine)
    (ret0 : ∀ h' tk', IsFirst f none → Fr h₀ L h' m → News h₀ L h' news → Q .none { s with heap := h', toks := tk' })
    (ret1 : ∀ i u h' tk', IsFirst f (some i) → Fr h₀ L h' m → News h₀ L h' news → Q (.int i u) { s with heap := h', toks := tk' }) :
    wpAny (model prog w) (ktrTop dp un gd cn cs L a ccd cl outer) (call (.ref 74) [.ref x]) Q E s := by
  obtain ⟨d, t, od, kvs, a1, a2, a3, hod, lo, hf, n1, n2⟩ := hA
  refine first_spec B F X T hk N a1 a2 a3 hod lo hf hd hu ?_
  intro v o h' tk' td hi F' N'
  cases td with
  | none => exact ret0 _ _ hi F' N'
  | int i u => exact ret1 _ _ _ _ hi F' N'
end
local macro_rules | `(tactic| walk_at "call ref") => `(tactic| (k_here; (with_reducible show wpAny _ _ (call (Value.ref 67) _) _ _ _); k_dflt (refine' timeof2_spec ?B ?F ?X ?T ?k ?N ?hA ?hd ?hu ?r0 ?r1; (case B => k_asm); (case F => k_asm); (case X => k_asm); (case T => k_asm); (case k => exact rfl); (case N => k_asm); (case hA => with_reducible assumption); (case hd => ktr_room); (case hu => ktr_units)) <;> intros <;> (try dsimp only)))
local macro_rules | `(tactic| walk_at "call ref") => `(tactic| (k_here; (with_reducible show wpAny _ _ (call (Value.ref 74) _) _ _ _); k_dflt (refine' first2_spec ?B ?F ?X ?T ?k ?N ?hA ?hd ?hu ?r0 ?r1; (case B => k_asm); (case F => k_asm); (case X => k_asm); (case T => k_asm); (case k => exact rfl); (case N => k_asm); (case hA => with_reducible assumption); (case hd => ktr_room); (case hu => ktr_units)) <;> intros <;> (try dsimp only)))
local macro_rules | `(tactic| k_ne) => `(tactic| first | with_reducible assumption | (refine Ne.symm ?_; with_reducible assumption) | ((try dsimp only); first | with_reducible assumption | (refine Ne.symm ?_; with_reducible assumption)))
local macro_rules | `(tactic| walk_at "exec For Name Call cons nil") => `(tactic| (k_here; refine Hold.open ?_))
local macro_rules | `(tactic| walk_at "call type:dict") => `(tactic| (k_here; refine Hold.open ?_))
local macro_rules | `(tactic| walk_at "exec For Tuple Tuple cons nil") => `(tactic| (k_here; refine Hold.open ?_))
local macro_rules | `(tactic| walk_at "call ref") => `(tactic| (k_here; (with_reducible show wpAny _ _ (call (Value.ref 102) _) _ _ _); refine Hold.open ?_))
local macro_rules | `(tactic| walk_at "call ref") => `(tactic| (k_here; (with_reducible show wpAny _ _ (call (Value.ref 81) _) _ _ _); refine Hold.open ?_))
local macro_rules | `(tactic| walk_at "subscriptTail Name Slice ref ref") => `(tactic| (k_here; (with_reducible show wpAny _ _ (subscriptTail _ (PySem.Expr.Slice none none (some _) _) (Value.ref _) (Value.ref _)) _ _ _); k_dflt (refine' krv_lit ?F ?N ?l ?k ?e ?_ ?s ?t ?z; (case F => k_asm); (case N => k_asm); (case l => kmk_list); (case k => exact IsPart.int _ _); (case e => exact rfl); (case s => with_unfolding_all rfl); (case t => kmk_pure); (case z => kmk_size)); intro D' h' F' N' l1))
local macro_rules | `(tactic| walk_at "exec Assign cons ListComp") => `(tactic| (k_here; refine Hold.open ?_))
local macro_rules | `(tactic| walk_at "call ref") => `(tactic| (k_here; (with_reducible show wpAny _ _ (call (Value.ref 67) _) _ _ _); refine Hold.open ?_))
local macro_rules | `(tactic| walk_at "call ref") => `(tactic| (k_here; (with_reducible show wpAny _ _ (call (Value.ref 74) _) _ _ _); refine Hold.open ?_))
local macro_rules | `(tactic| walk_at "call builtin:sorted") => `(tactic| (k_here; refine Hold.open ?_))
local macro_rules | `(tactic| walk_at "call builtin:min") => `(tactic| (k_here; refine Hold.open ?_))
set_option maxHeartbeats 40000000 in
noncomputable def cap8 : (P : Prop) ×' (Q : Prop) ×' (PLift P → PLift Q → PySem.Challenge.rw_sa0560_01.Holds) := by
  refine' ⟨_, _, fun HboxA HboxB => Mine.hd ?main⟩
  case main =>
    k_go0
    all_goals try k_fold
    k_steps
    refine Hold.mk ?_
    refine For_code ?_
    k_steps
    rename Fr _ _ _ _ => F1
    rename News _ _ _ _ => N1
    rename IsRange _ _ _ _ _ _ _ _ => rg
    rename 0 ≤ _ => d0
    rename _ < 6 => d1
    obtain ⟨e1, e2⟩ := range_facts d0 d1
    refine iter_range [Str.ofString "turn", Str.ofString "kind", Str.ofString "told"] (RowsJ _ _ _ _) rfl rfl rfl rg e1 e2 F1 N1 ⟨[], 0, _, _, _, [], [], _, rfl, .nil, .nil, rfl, by omega, by omega, ?_, ?_, fun _ hq => hq, ?_, ?_⟩ ?_ ?_
    · k_all
    · k_all
    · k_ne
    · k_ne
    · rintro i t u nx I oI h tk hin ⟨rs, n, k, tb, nb, ps, rows, tl, rfl, hP, hR, hlen, hk0, hk1, h2, h3, h4, h5, h6⟩ hI F2 N2
      replace F2 := Fr.as F1 F2
      replace N2 := News.as F1 N2
      clear F1 N1
      have hn7 : i < 7 := by omega
      have f1 := hI _ List.mem_cons_self
      have f2 := hI _ (List.mem_cons_of_mem _ List.mem_cons_self)
      have f3 := h4 _ List.mem_cons_self
      dsimp only at f1 f2
      have hsz : rs.toArray.size ≤ sizeLine := by
        have := hP.length
        have := hR.length
        rw [sizeLine_eq, List.size_toArray]
        omega
      k_steps
      all_goals (rename Fr _ _ _ _ => F3; rename News _ _ _ _ => N3; rename _ ∧ _ ∧ _ ∧ _ ∧ AllLt _ _ => q1)
      · exact rows_turn F3 (News.drop2 N3) (Nat.ne_of_gt q1.2.1) (Nat.ne_of_gt q1.2.2.1) (Nat.ne_of_gt q1.2.2.2.1) hP hR hlen (by omega) (by omega) h2 h3 h4 h5 h6 hI (kindAt_mem (by omega)) .none (by intro z hz; repeat (first | exact frM_out hz | refine (if_neg (free_ne hz (by rfl))).trans ?_))
      · exact rows_turn F3 (News.drop2 N3) (Nat.ne_of_gt q1.2.1) (Nat.ne_of_gt q1.2.2.1) (Nat.ne_of_gt q1.2.2.2.1) hP hR hlen (by omega) (by omega) h2 h3 h4 h5 h6 hI (kindAt_mem (by omega)) (.int _ _) (by intro z hz; repeat (first | exact frM_out hz | refine (if_neg (free_ne hz (by rfl))).trans ?_))
    · rintro h₂ tk₂ u nx F2 N2 ⟨rs, n, k, tb, nb, ps, rows, tl, rfl, hP, hR, hlen, hk0, hk1, h2, h3, h4, h5, h6⟩
      replace F2 := Fr.as F1 F2
      replace N2 := News.as F1 N2
      clear F1 N1
      have hr7 : rows.length ≤ 7 := by omega
      have m4 := h4 _ (.tail _ (.tail _ (.head _)))
      have m3 := h4 _ (.tail _ (.tail _ (.tail _ (.head _))))
      have m2 := h4 _ (.tail _ (.tail _ (.tail _ (.tail _ (.head _)))))
      have m1 := h4 _ (.tail _ (.tail _ (.tail _ (.tail _ (.tail _ (.head _))))))
      obtain ⟨tl', hsub, t1, t2, t3, t4, hkeep⟩ := cells4 N2 (fun q hq => .tail _ (.tail _ hq)) m4 m3 m2 m1 (by assumption) (by assumption) (by assumption) (by assumption)
      have g1 := h2 _ m1
      have g2 := h2 _ m2
      have g3 := h2 _ m3
      have g4 := h2 _ m4
      have g5 := h3 _ m1
      have g6 := h3 _ m2
      have g7 := h3 _ m3
      have g8 := h3 _ m4
      dsimp only at g1 g2 g3 g4 g5 g6 g7 g8
      replace hP := hP.keep hkeep
      replace N2 := news_cells N2 m4 m3 m2 m1 hsub
      have f3 := hkeep _ (h4 _ List.mem_cons_self) (fun v e => by cases e)
      replace h2 : ∀ q ∈ tl', q.1 ≠ _ := fun q hq => h2 q (hsub q hq)
      replace h3 : ∀ q ∈ tl', q.1 ≠ _ := fun q hq => h3 q (hsub q hq)
      clear h4 hsub hkeep m1 m2 m3 m4
      dsimp only
      clear hlen
      k_steps
      refine Hold.mk ?_
      rename Fr _ _ _ _ => F3
      rename News _ _ _ _ => N3
      rename Top _ _ _ _ _ _ => T3
      obtain ⟨kvs, hkp, hkt, rfl⟩ := rows_kp hR
      have hM := hkt.merged (acc := []) fun _ h => (nomatch h)
      refine dict_pairs rfl F3 N3 T3.nolimit (vs := rs) (List.mem_cons_of_mem _ List.mem_cons_self) (hP.mono fun q hq => .tail _ (.tail _ (.tail _ (.tail _ (.tail _ (.tail _ (.tail _ hq))))))) hkp (by rw [sizeLine_eq]; have := hP.length; have := hkp.length; rw [List.length_map] at hr7; omega) ?_
      intro dl ol h₄ tk₄ hol lol F4 N4 hdl
      clear F3 N3
      generalize hMM : merged [] kvs = M at hol hM
      have hMn : (M.map (·.1)).Nodup := isdict_nodup hol
      have l9 := allLt_of hdl
      clear hdl
      dsimp only [AllLt] at l9
      k_steps
      rename Fr _ _ _ _ => F5
      rename News _ _ _ _ => N5
      have hM6 : M.length ≤ 6 := by
        have := nodup_len hMn (k := kinds) fun a ha => by
          obtain ⟨p, hp, rfl⟩ := List.mem_map.mp ha
          exact (hM p hp).1
        rw [List.length_map] at this
        exact this
      refine dict_name (kvs := M) (LastJ M _) _ rfl (by decide) rfl rfl (by rw [sizeLine_eq]; omega) lol (.tail _ (.head _)) hol F5 N5 ⟨[], .nil, .nil, fun _ hq => hq⟩ ?_ ?_ ?_
      · rintro i ys nx ⟨ps, -, -, hsub⟩
        exact hsub _ (.tail _ (.head _))
      · rintro i key val hi t ys nx I oI oC m₂ C D h tk ⟨ps, hP, hK, hsub⟩ e1 hC F2 N2 off ne -
        have c1 := hsub _ (.tail _ (.head _))
        have c2 := hsub _ (.tail _ (.tail _ (.tail _ (.tail _ (.tail _ (.tail _ (.tail _ (.head _))))))))
        have hval : valueAt M key = some val := valueAt_mem hMn (List.mem_of_getElem? hi)
        have n1 := ne.1
        have n2 := ne.2.1
        have n3 := ne.2.2
        clear F5 N5
        k_steps
        rename _ ∧ _ ∧ _ ∧ AllLt _ _ => l2
        refine pair_end (J := LastJ M _ (i + 1)) (by assumption) (by assumption) off ⟨Nat.ne_of_gt l2.1, Nat.ne_of_gt l2.2.1, Nat.ne_of_gt l2.2.2.1⟩ ⟨ps ++ [(.str key t, val)], (hP.mono fun q hq => List.mem_cons_of_mem _ hq).append (.cons List.mem_cons_self .nil), ?_, fun q hq => List.mem_cons_of_mem _ (hsub q hq)⟩
        obtain ⟨hlt, e⟩ := List.getElem?_eq_some_iff.mp hi
        rw [List.take_succ_eq_append_getElem hlt, e]
        exact hK.append (.cons .nil)
      · refine post_none ?_
        rintro D ys nx h₅ tk₅ F6 N6 off ⟨ps₂, hP₂, hK₂, hsub⟩
        rw [List.take_length] at hK₂
        have c2 := hsub _ (.tail _ (.tail _ (.tail _ (.tail _ (.tail _ (.tail _ (.tail _ (.head _))))))))
        have c1 := hsub _ (.tail _ (.tail _ (.tail _ (.tail _ (.tail _ (.tail _ (.tail _ (.tail _ (.head _)))))))))
        have c3 := hsub _ (.tail _ (.tail _ (.tail _ (.tail _ (.tail _ (.tail _ (.head _)))))))
        have c4 := hsub _ (.tail _ (.tail _ (.tail _ (.tail _ (.tail _ (.head _))))))
        have cr := hsub _ (.tail _ (.tail _ (.tail _ (.head _))))
        have hPr := hP.mono fun q hq => hsub q (.tail _ (.tail _ (.tail _ (.tail _ (.tail _ (.tail _ (.tail _ (.tail _ (.tail _ hq)))))))))
        clear F5 N5 hsub
        dsimp only
        k_steps
        refine Hold.mk ?_
        refine sorted_strs2 F6 N6 List.mem_cons_self (hP₂.mono fun q hq => List.mem_cons_of_mem _ hq) (kp_strs hK₂) hMn (fun k hk => by
          obtain ⟨p, hp, rfl⟩ := List.mem_map.mp hk
          exact (hM p hp).1) ?_
        intro Dl vs₃ ps₃ h₆ c hperm hP₃ F7 N7 hDl
        obtain ⟨kvs₃, hK₃, hperm₃⟩ := kp_perm hperm hK₂
        clear F6 N6
        k_steps
        refine Hold.mk ?_
        refine For_code ?_
        k_steps
        refine Hold.mk ?_
        k_dflt (refine' made_spec (vs := rs) (rows := kvs.map toRow) ?zB ?zF ?zX ?zT ?zk ?zN ?zr ?zP hR ?zd ?zu ?_)
        case zB => k_asm
        case zF => k_asm
        case zX => k_asm
        case zT => k_asm
        case zk => exact rfl
        case zN => k_asm
        case zr => repeat (first | exact cr | apply List.mem_cons_of_mem)
        case zP => exact hPr.mono fun q hq => by repeat (first | exact hq | apply List.mem_cons_of_mem)
        case zd => ktr_room
        case zu => ktr_units
        intro x1 dx1 d1 nx1 h₇ tk₇ al1 F8 N8 sub1 ne1
        rename News _ _ _ (_ :: _ :: _ :: _) => Nold
        have ce1 := sub1 _ (.head _)
        have cl1 := sub1 _ (.tail _ (.head _))
        have hkt₃ : KT kvs₃ := fun p hp => hM p (hperm₃.mem_iff.mp hp)
        have hR₃ := kp_rows hK₃ hkt₃
        clear Nold
        k_steps
        refine Hold.mk ?_
        rename News _ _ _ ((_, _) :: nx1) => N9
        k_dflt (refine' made_spec (vs := vs₃) (rows := kvs₃.map toRow) ?zB ?zF ?zX ?zT ?zk N9 ?zr ?zP hR₃ ?zd ?zu ?_)
        case zB => k_asm
        case zF => k_asm
        case zX => k_asm
        case zT => k_asm
        case zk => exact rfl
        case zr => exact .tail _ cl1
        case zP => exact hP₃.mono fun q hq => .tail _ (sub1 _ (.tail _ (.tail _ hq)))
        case zd => ktr_room
        case zu => ktr_units
        intro x2 dx2 d2 nx2 h₈ tk₈ al2 F10 N10 sub2 ne2
        clear N9
        have cl2 := sub2 _ (.tail _ cl1)
        have p1 := sub2 _ (.head _)
        have hsz3 : (List.toArray vs₃).size ≤ sizeLine := by
          have := hP₃.length
          have := hK₃.length
          have := hperm₃.length_eq
          rw [sizeLine_eq, List.size_toArray]
          omega
        k_steps
        refine Hold.mk ?_
        rename News _ _ _ ((_, _) :: (_, _) :: nx2) => N11
        k_dflt (refine' made_spec (vs := vs₃.reverse) (rows := (kvs₃.map toRow).reverse) ?zB ?zF ?zX ?zT ?zk N11 ?zr ?zP hR₃.rev ?zd ?zu ?_)
        case zB => k_asm
        case zF => k_asm
        case zX => k_asm
        case zT => k_asm
        case zk => exact rfl
        case zr => exact .head _
        case zP => exact hP₃.rev.mono fun q hq => .tail _ (.tail _ (sub2 _ (.tail _ (sub1 _ (.tail _ (.tail _ hq))))))
        case zd => ktr_room
        case zu => ktr_units
        intro x3 dx3 d3 nx3 h₉ tk₉ al3 F12 N12 sub3 ne3
        clear N11
        have p2 := sub3 _ (.tail _ (.head _))
        k_steps
        rename Fr _ _ _ _ => F13
        rename News _ _ _ _ => N13
        rename _ < 8 => hf8
        rename _ < 4 => hs4
        rename _ < _ ∧ _ < _ ∧ AllLt _ nx => le1
        have up1 : ∀ q ∈ nx1, q ∈ nx2 := fun q hq => sub2 _ (.tail _ hq)
        have up2 : ∀ q ∈ nx2, q ∈ nx3 := fun q hq => sub3 _ (.tail _ (.tail _ hq))
        have up0 : ∀ q ∈ nx, q ∈ nx1 := fun q hq => sub1 _ (.tail _ (.tail _ (.tail _ hq)))
        have top : ∀ q ∈ nx, q ∈ nx3 := fun q hq => up2 _ (up1 _ (up0 _ hq))
        obtain ⟨D1, D2, hD1, hD2⟩ := due_of (lookF M 0) hf8 hs4
        rw [madeF_look, hMM, lookF_shift] at al1
        rw [madeF_perm hperm₃ hMn, lookF_shift] at al2
        rw [← List.map_reverse, madeF_perm ((List.reverse_perm _).trans hperm₃) hMn, lookF_shift] at al3
        obtain ⟨t1, od1, kv1, a11, a12, a13, -⟩ := id al1
        obtain ⟨t2, od2, kv2, a21, a22, a23, -⟩ := id al2
        obtain ⟨t3, od3, kv3, a31, a32, a33, -⟩ := id al3
        obtain ⟨bs, b1, b2, b3, b4⟩ := static_part (w := _) N13 (.tail _ (.tail _ (top _ c3))) (by assumption) (.tail _ (.tail _ (top _ c4))) (by assumption) (.tail _ (.tail _ (up2 _ (up1 _ ce1)))) (.tail _ (.tail _ (up2 _ (up1 _ a12)))) (.tail _ (.tail _ (up2 _ a22))) (.tail _ (.tail _ a32))
        rename _ < _ ∧ AllLt _ nx3 => le2
        rename ∀ p ∈ nx1, p.1 < _ => lt4
        rename ∀ p ∈ nx2, p.1 < _ => lt5
        rename ∀ p ∈ nx3, p.1 < _ => lt7
        have hdist := three_dist (x1 := x1) (d1 := d1) (ne2 _ (.tail _ a12)) (ne3 _ (.tail _ (.tail _ (up1 _ a12)))) (ne3 _ (.tail _ (.tail _ a22)))
        have ce2 := up1 _ ce1
        have ce3 := up2 _ ce2
        have hT := b3 _ (.head _) ⟨_, _, rfl⟩ (Ne.symm (allLt_ne le2.2 _ ce3))
        have hP1 := b3 _ (.tail _ (.tail _ (up2 _ p1))) ⟨_, _, rfl⟩ (Nat.ne_of_gt (lt4 _ ce1))
        have hP2 := b3 _ (.tail _ (.tail _ p2)) ⟨_, _, rfl⟩ (Nat.ne_of_gt (lt5 _ ce2))
        have hP3' := b3 _ (.tail _ (.head _)) ⟨_, _, rfl⟩ (Nat.ne_of_gt (lt7 _ ce3))
        have hcS := b4 _ (.tail _ (.tail _ (top _ c1))) ⟨_, by assumption⟩ (by k_ne) (by k_ne)
        have hlast := b3 _ (.tail _ (.tail _ (up2 _ cl2))) ⟨_, _, rfl⟩ (Nat.ne_of_lt le1.1)
        have hPl : PairsAre bs vs₃ ps₃ := hP₃.keep2 fun q hq hd => by
          refine b3 _ (.tail _ (.tail _ (up2 _ (up1 _ (sub1 _ (.tail _ (.tail _ hq))))))) hd ?_
          rcases List.mem_cons.mp hq with rfl | hq
          · exact Nat.ne_of_lt le1.2.1
          · exact allLt_ne le1.2.2 _ hq
        have hrows := b3 _ (.tail _ (.tail _ (top _ cr))) ⟨_, _, rfl⟩ (allLt_ne le1.2.2 _ cr)
        have hPrb : PairsAre bs rs ps := hPr.keep2 fun q hq hd => b3 _ (.tail _ (.tail _ (top _ hq))) hd (allLt_ne le1.2.2 _ hq)
        refine iter_gen (tup := true) [Str.ofString "taken", Str.ofString "left"] (LoopJ _ _ (pick3 x1 x2 x3) (pick3 dx1 dx2 dx3) (pick3 d1 d2 d3) (fun j => shiftF (lookF M 0) (pick3 0 0 _ j)) _ _ _ bs D1 (D1 ++ D2)) rfl ⟨_, .inr (.head _), rfl, _, rfl⟩ F13 N13
          ⟨⟨[], _, .tail _ (.tail _ ce3), rfl, .nil⟩, three_al (al1.mono fun q hq _ => .tail _ (.tail _ (up2 _ (up1 _ hq)))) (al2.mono fun q hq _ => .tail _ (.tail _ (up2 _ hq))) (al3.mono fun q hq _ => .tail _ (.tail _ hq)), b1, ⟨_, _, .tail _ (.tail _ (top _ c3)), by assumption⟩, ⟨_, _, .tail _ (.tail _ (top _ c4)), by assumption⟩⟩
          (fun i m' nx hJ => ⟨_, .inr (hJ.2.2.1 _ hT), rfl, _, rfl⟩) ?_ ?_
        · intro i v u nx' I oI h tk hv hJ hI F2 N2 hIt
          obtain ⟨hi3, P, tP, cP, rfl, hPP⟩ := three_pair hv hP1 hP2 hP3'
          have hdI := hIt.data (N2 _ (.head _)).1
          have hbI : ∀ q ∈ bs, q.1 ≠ I := fun q hq => hI _ (hJ.2.2.1 q hq)
          refine hIt.letGo ?_
          obtain ⟨R, oA, vA, oO, vO, es, n, dA, dO, N3, r1, r2, r3, r4, r5, he, hlen, hE, hal, hbs⟩ := turn_start (News.as F13 N2) hI hJ (fun q hq => ⟨(b2 q hq).1, (b2 q hq).2.1⟩)
          replace F2 := Fr.as F13 F2
          clear F13 N13 N2
          have hcS2 := hbs _ hcS
          obtain ⟨_, _, _, g1, g2, -⟩ := id (hal i (Nat.le_refl _) hi3)
          k_dflt (refine unpackN_ F2 N3 (News.isTup N3 (.tail _ (.tail _ (.tail _ (hbs _ hPP))))) rfl rfl rfl ?_)
          intro h' F3 N4
          k_steps
          refine Hold.mk ?_
          rename News _ _ _ _ => N5
          rename Obj.data _ = Data.cell (some (Value.int (pick3 _ _ _ _) _)) => hdO
          rename Obj.data _ = Data.cell (some (Value.ref _)) => hdA
          have S1 := TurnS.first N5 he hE hal hi3 hbs
          have hIx := Ne.symm (r1 _ g2)
          have hIe := Ne.symm (r1 _ he)
          clear hal hE he hbs g1 g2 r1 r2 r3
          k_dflt (refine' take_spec ?zB ?zF ?zX ?zT ?zk N5 S1.al ?zd ?zu ?_)
          case zB => k_asm
          case zF => k_asm
          case zX => k_asm
          case zT => k_asm
          case zk => exact rfl
          case zd => ktr_room
          case zu => ktr_units
          intro la va dsa na nxa h8 tk8 due_a str_a al_a F6 N6 mem_a sub_a ne_a
          have S2 := S1.take N5 hdA hdO (fun j h1 h2 => hdist i j h1 h2) (fun q hq => three_ne (b2 q hq).2.2.2.1 (b2 q hq).2.2.2.2.1 (b2 q hq).2.2.2.2.2 i) hIx sub_a al_a
          have e1 := due_a.unique (hD1.shift _)
          rw [e1] at str_a S2
          have nea := Ne.symm (ne_a _ S1.ev)
          clear S1 N5 sub_a al_a due_a e1
          obtain ⟨_, _, g1, g2⟩ := S2.al.objs
          have m1 := S2.ca
          have m2 := S2.co
          have m3 := S2.ev
          have m4 := S2.st _ hcS
          k_steps
          refine Hold.mk ?_
          rename News _ _ _ nxa => N8a
          k_dflt (refine' take_spec ?zB ?zF ?zX ?zT ?zk N8a S2.al ?zd ?zu ?_)
          case zB => k_asm
          case zF => k_asm
          case zX => k_asm
          case zT => k_asm
          case zk => exact rfl
          case zd => ktr_room
          case zu => ktr_units
          intro lb vb dsb nb nxb h9 tk9 due_b str_b al_b F9 N9 mem_b sub_b ne_b
          have S3 := S2.take N8a hdA hdO (fun j h1 h2 => hdist i j h1 h2) (fun q hq => three_ne (b2 q hq).2.2.2.1 (b2 q hq).2.2.2.2.1 (b2 q hq).2.2.2.2.2 i) hIx sub_b al_b
          rw [remF_shift] at due_b
          have e2 := due_b.unique (hD2.shift _)
          rw [e2] at str_b S3
          have neb := Ne.symm (ne_b _ S2.ev)
          have nab := ne_b _ mem_a
          have mem_a2 := sub_b _ mem_a (ne_obj N8a mem_a g2 (fun x => by cases x))
          clear S2 N8a sub_b al_b due_b e2 m1 m2 m3 m4 g1 g2 mem_a ne_a ne_b
          obtain ⟨_, _, g1, g2⟩ := S3.al.objs
          have m1 := S3.ca
          have m2 := S3.co
          have m3 := S3.ev
          have m4 := S3.st _ hcS
          have hva : va.length ≤ 6 := by rw [strs_len str_a]; exact hD1.len
          have hvb : vb.length ≤ 6 := by rw [strs_len str_b]; exact hD2.len
          have hce := Nat.ne_of_gt (Heap.lt_size (N9 _ S3.ev).1)
          refine add_lists (by k_asm) N9 (News.isList N9 mem_a2) (News.isList N9 mem_b) ?_ (by rw [sizeLine_eq]; omega)
          intro h10 F10 N10
          k_steps
          rename Fr _ _ _ _ => F11
          rename News _ _ _ _ => N11
          rename _ < _ ∧ AllLt _ nxb => lD
          have S4 := S3.append N11 hdA hdO mem_a2 str_a (strs_app str_a str_b) nea hce (Ne.symm (allLt_ne lD.2 _ S3.ev)) hIe (fun q hq => (b2 q hq).2.2.1)
          refine append_K F11 (news_front N11 (.tail _ (.tail _ S3.ev))) (.head fun q hq => (avoid_of hq).2) ?_ (by rw [sizeLine_eq, List.size_toArray]; omega)
          intro h12 F12 N12
          clear S3 N11 F11 m1 m2 m3 m4 g1 g2
          obtain ⟨_, _, g1, g2⟩ := S4.al.objs
          have m1 := S4.ca
          have m2 := S4.co
          have m4 := S4.st _ hcS
          k_steps
          rename_i za177 za176 za175 za174 za173 za172 za171 za170 za169 za168 za167 za166 za165 za164 za163 za162 za161 za160 za159 za158 za157 za156
            za155 za154 za153 za152 za151 za150 za149 za148 za147 za146 za145 za144 za143 za142 za141 za140 za139 za138 za137 za136 za135 za134 za133
            za132 za131 za130 za129 za128 za127 za126 za125 za124 za123 za122 za121 za120 za119 za118 za117 za116 za115 za114 za113 za112 za111 za110
            za109 za108 za107 za106 za105 za104 za103 za102 za101 za100 za99 za98 za97 za96 za95 za94 za93 za92 za91 za90 za89 za88 za87 za86 za85 za84
            za83 za82 za81 za80 za79 za78 za77 za76 za75 za74 za73 za72 za71 za70 za69 za68 za67 za66 za65 za64 za63 za62 za61 za60 za59 za58 za57 za56
            za55 za54 za53 za52 za51 za50 za49 za48 za47 za46 za45 za44 za43 za42 za41 za40 za39 za38 za37 za36 za35 za34 za33 za32 za31 za30 za29 za28
            za27 za26 za25 za24 za23 za22 za21 za20 za19 za18 za17 za16 za15 za14 za13 za12 za11 za10 za9 za8 za7 za6 za5 za4 za3 za2 za1
          revert za177 za176 za175 za174 za173 za172 za171 za170 za169 za168 za167 za166 za165 za164 za163 za162 za161 T3 za160 za159 za158 za157 za156
            za155 za154 za153 za152 za151 za150 za149 za148 za147 za146 za145 za144 za143 za142 za141 za140 za139 za138 za137 za136 za135 za134 za133
            za132 za131 za130 za129 za128 za127 za126 za125 za124 za123 za122 za121 za120 qk ek za119 za118 za117 za116 za115 za114 za113 za112 za111
            za110 za109 za108 za107 za106 za105 za104 za103 za102 za101 za100 za99 za98 za97 za96 za95 za94 za93 za92 za91 d0 za90 za89 za88 za87 za86
            za85 rg za84 e1 e2 h₂ tk₂ za83 rs za82 k tb za81 ps tl hk0 hk1 h5 h6 tl' za80 za79 za78 t4 za77 za76 g3 g4 g5 g6 g7 g8 hP f3 h2 h3 za75 za74
            za73 za72 za71 za70 za69 hf8 za68 za67 za66 za65 za64 za63 za62 za61 za60 za59 za58 za57 za56 za55 za54 za53 za52 za51 za50 za49 za48 za47
            hs4 kvs hkp hkt hR hr7 dl ol h₄ tk₄ lol M hMM hol hM hMn l9 za46 za45 za44 za43 za42 za41 za40 za39 za38 za37 za36 hM6 D ys nx h₅ tk₅ off
            ps₂ hP₂ hK₂ c2 c1 c3 c4 cr hPr Dl vs₃ ps₃ h₆ c hperm hP₃ hDl kvs₃ hK₃ hperm₃ za35 za34 za33 za32 le1 za31 za30 x1 dx1 d1 nx1 h₇ tk₇ al1 sub1
            ne1 ce1 cl1 hkt₃ hR₃ za29 za28 lt4 x2 dx2 d2 nx2 h₈ tk₈ al2 sub2 ne2 cl2 p1 hsz3 za27 za26 lt5 za25 za24 za23 x3 dx3 d3 nx3 h₉ tk₉ al3 sub3
            ne3 p2 za22 za21 lt7 za20 za19 le2 up1 up2 up0 top D1 D2 hD1 hD2 t1 od1 kv1 a11 a12 a13 t2 od2 kv2 a21 a22 a23 t3 od3 kv3 a31 a32 a33 bs b1
            b2 b3 b4 hdist ce2 ce3 hT hP1 hP2 hP3' hcS hlast hPl hrows hPrb i u nx' I oI h za18 hJ hI hIt hi3 P tP cP hPP hv hdI hbI R oA vA oO vO es n
            dA dO r4 r5 hlen hcS2 za17 za16 za15 h' za14 za13 hdA za12 za11 hdO za10 hIx hIe la va dsa na nxa h8 tk8 str_a nea za9 za8 za7 tk lb vb dsb
            nb nxb h9 tk9 str_b mem_b neb nab mem_a2 za6 za5 hva hvb hce h10 za4 za3 lD S4 h12 F12 N12 za2 za1 g1 g2 m1 m2 m4
          exact HboxA.down
        · rename_i zb153 zb152 zb151 zb150 zb149 zb148 zb147 zb146 zb145 zb144 zb143 zb142 zb141 zb140 zb139 zb138 zb137 zb136 zb135 zb134 zb133 zb132
            zb131 zb130 zb129 zb128 zb127 zb126 zb125 zb124 zb123 zb122 zb121 zb120 zb119 zb118 zb117 zb116 zb115 zb114 zb113 zb112 zb111 zb110 zb109
            zb108 zb107 zb106 zb105 zb104 zb103 zb102 zb101 zb100 zb99 zb98 zb97 zb96 zb95 zb94 zb93 zb92 zb91 zb90 zb89 zb88 zb87 zb86 zb85 zb84 zb83
            zb82 zb81 zb80 zb79 zb78 zb77 zb76 zb75 zb74 zb73 zb72 zb71 zb70 zb69 zb68 zb67 zb66 zb65 zb64 zb63 zb62 zb61 zb60 zb59 zb58 zb57 zb56 zb55
            zb54 zb53 zb52 zb51 zb50 zb49 zb48 zb47 zb46 zb45 zb44 zb43 zb42 zb41 zb40 zb39 zb38 zb37 zb36 zb35 zb34 zb33 zb32 zb31 zb30 zb29 zb28 zb27
            zb26 zb25 zb24 zb23 zb22 zb21 zb20 zb19 zb18 zb17 zb16 zb15 zb14 zb13 zb12 zb11 zb10 zb9 zb8 zb7 zb6 zb5 zb4 zb3 zb2 zb1
          revert zb153 zb152 zb151 zb150 zb149 zb148 zb147 zb146 zb145 zb144 zb143 zb142 zb141 zb140 zb139 zb138 zb137 T3 zb136 zb135 zb134 zb133 zb132
            zb131 zb130 zb129 zb128 zb127 zb126 zb125 zb124 zb123 zb122 zb121 zb120 zb119 zb118 zb117 zb116 zb115 zb114 zb113 zb112 zb111 zb110 zb109
            zb108 zb107 zb106 zb105 zb104 zb103 zb102 zb101 zb100 zb99 zb98 zb97 zb96 qk ek zb95 zb94 zb93 zb92 zb91 zb90 zb89 zb88 zb87 zb86 zb85 zb84
            zb83 zb82 zb81 zb80 zb79 zb78 zb77 zb76 zb75 zb74 zb73 zb72 zb71 zb70 zb69 zb68 zb67 d0 zb66 zb65 zb64 zb63 zb62 zb61 rg zb60 e1 e2 h₂ tk₂ u
            rs n k tb nb ps tl hk0 hk1 h5 h6 tl' zb59 zb58 zb57 t4 g1 g2 g3 g4 g5 g6 g7 g8 hP f3 h2 h3 zb56 zb55 zb54 zb53 zb52 zb51 zb50 hf8 zb49 zb48
            zb47 zb46 zb45 zb44 zb43 zb42 zb41 zb40 zb39 zb38 zb37 zb36 zb35 zb34 zb33 zb32 zb31 zb30 zb29 zb28 hs4 kvs hkp hkt hR hr7 dl ol h₄ tk₄ lol
            M hMM hol hM hMn l9 zb27 zb26 zb25 zb24 zb23 zb22 zb21 zb20 zb19 zb18 zb17 hM6 D ys nx h₅ tk₅ off ps₂ hP₂ hK₂ c2 c1 c3 c4 cr hPr Dl vs₃ ps₃
            h₆ c hperm hP₃ hDl kvs₃ hK₃ hperm₃ zb16 zb15 zb14 zb13 le1 zb12 tk x1 dx1 d1 nx1 h₇ tk₇ al1 sub1 ne1 ce1 cl1 hkt₃ hR₃ zb11 zb10 lt4 x2 dx2
            d2 nx2 h₈ tk₈ al2 sub2 ne2 cl2 p1 hsz3 zb9 zb8 lt5 zb7 zb6 zb5 x3 dx3 d3 nx3 h₉ tk₉ al3 sub3 ne3 p2 zb4 zb3 lt7 zb2 zb1 F13 N13 le2 up1 up2
            up0 top D1 D2 hD1 hD2 t1 od1 kv1 a11 a12 a13 t2 od2 kv2 a21 a22 a23 t3 od3 kv3 a31 a32 a33 bs b1 b2 b3 b4 hdist ce2 ce3 hT hP1 hP2 hP3' hcS
            hlast hPl hrows hPrb
          exact HboxB.down
set_option maxHeartbeats 40000000 in
noncomputable def cap9 : (P : Prop) ×' (PLift P → cap8.1) := by
  refine' ⟨_, fun HboxA => ?main⟩
  case main =>
    intro za177 za176 za175 za174 za173 za172 za171 za170 za169 za168 za167 za166 za165 za164 za163 za162 za161 T3 za160 za159 za158 za157 za156 za155
      za154 za153 za152 za151 za150 za149 za148 za147 za146 za145 za144 za143 za142 za141 za140 za139 za138 za137 za136 za135 za134 za133 za132 za131
      za130 za129 za128 za127 za126 za125 za124 za123 za122 za121 za120 qk ek za119 za118 za117 za116 za115 za114 za113 za112 za111 za110 za109 za108
      za107 za106 za105 za104 za103 za102 za101 za100 za99 za98 za97 za96 za95 za94 za93 za92 za91 d0 za90 za89 za88 za87 za86 za85 rg za84 e1 e2 h₂ tk₂
      za83 rs za82 k tb za81 ps tl hk0 hk1 h5 h6 tl' za80 za79 za78 t4 za77 za76 g3 g4 g5 g6 g7 g8 hP f3 h2 h3 za75 za74 za73 za72 za71 za70 za69 hf8 za68
      za67 za66 za65 za64 za63 za62 za61 za60 za59 za58 za57 za56 za55 za54 za53 za52 za51 za50 za49 za48 za47 hs4 kvs hkp hkt hR hr7 dl ol h₄ tk₄ lol M
      hMM hol hM hMn l9 za46 za45 za44 za43 za42 za41 za40 za39 za38 za37 za36 hM6 D ys nx h₅ tk₅ off ps₂ hP₂ hK₂ c2 c1 c3 c4 cr hPr Dl vs₃ ps₃ h₆ c hperm
      hP₃ hDl kvs₃ hK₃ hperm₃ za35 za34 za33 za32 le1 za31 za30 x1 dx1 d1 nx1 h₇ tk₇ al1 sub1 ne1 ce1 cl1 hkt₃ hR₃ za29 za28 lt4 x2 dx2 d2 nx2 h₈ tk₈ al2
      sub2 ne2 cl2 p1 hsz3 za27 za26 lt5 za25 za24 za23 x3 dx3 d3 nx3 h₉ tk₉ al3 sub3 ne3 p2 za22 za21 lt7 za20 za19 le2 up1 up2 up0 top D1 D2 hD1 hD2 t1
      od1 kv1 a11 a12 a13 t2 od2 kv2 a21 a22 a23 t3 od3 kv3 a31 a32 a33 bs b1 b2 b3 b4 hdist ce2 ce3 hT hP1 hP2 hP3' hcS hlast hPl hrows hPrb i u nx' I oI
      h za18 hJ hI hIt hi3 P tP cP hPP hv hdI hbI R oA vA oO vO es n dA dO r4 r5 hlen hcS2 za17 za16 za15 h' za14 za13 hdA za12 za11 hdO za10 hIx hIe la
      va dsa na nxa h8 tk8 str_a nea za9 za8 za7 tk lb vb dsb nb nxb h9 tk9 str_b mem_b neb nab mem_a2 za6 za5 hva hvb hce h10 za4 za3 lD S4 h12 F12 N12
      za2 za1 g1 g2 m1 m2 m4
    w_top off
    refine Hold.mk ?_
    obtain ⟨nx4, ff, S5, N5, q1, q2, q3⟩ := facts_pack S4 N12 hD1 hD2 hperm₃ hMn hM (by assumption)
    clear S4 N12 g1 g2 m1 m2 m4
    refine comp_assign (by rfl) (by rfl) (by rfl) (by decide) ?_
    k_steps
    rename Fr _ _ _ _ => F13
    rename Frag.In _ _ => X1
    obtain ⟨kv, hkv, hsrc⟩ := kinds_src X1
    have hkl := strs_len hkv
    refine seq_name (tup := true) (LeftJ ff nx4) _ rfl (by decide) rfl rfl (by rw [sizeLine_eq, List.size_toArray, hkl]; decide) (hsrc _) F13 N5 ⟨.nil, fun _ h => h⟩ (fun _ _ _ _ => hsrc _) ?_ ?_
    · rintro i₁ v hv₁ ys nx I₁ oI₁ oC m₂ C D h₁ tk₁ ⟨hY, hsub⟩ e1 hC F2 N2 off ne -
      clear F13 N5
      obtain ⟨hi₁, _⟩ := Array.getElem?_eq_some_iff.mp hv₁
      rw [List.size_toArray, hkl] at hi₁
      obtain ⟨ut, hut⟩ := strs_get hkv i₁ hi₁
      rw [List.getElem?_toArray, hut] at hv₁
      cases hv₁
      have al6 := S5.al.mono (nx' := (I₁, oI₁) :: (C, oC) :: (D, lst ys) :: nx) fun q hq => .tail _ (.tail _ (.tail _ (hsub q hq)))
      obtain ⟨_, _, b1, b2⟩ := al6.objs
      have c1 := hsub _ S5.ca
      have n1 := ne.1
      have n2 := ne.2.1
      have n3 := ne.2.2
      have hki := kindAt_eq hi₁
      k_steps
      refine Hold.mk ?_
      k_dflt (refine' timeof2_spec ?zB ?zF ?zX ?zT ?zk N2 al6 ?zd ?zu ?z0 ?z1)
      case zB => k_asm
      case zF => k_asm
      case zX => k_asm
      case zT => k_asm
      case zk => exact rfl
      case zd => ktr_room
      case zu => ktr_units
      · intro h3 tk3 e3 F3 N3
        clear N2 F2
        k_steps
        exact CEnd.stay F3 N3 off (left_stay ⟨hY, hsub⟩ (hki ▸ e3))
      · intro t3 u3 h3 tk3 e3 F3 N3
        clear N2 F2
        k_steps
        refine Hold.mk ?_
        k_dflt (refine' timeof2_spec ?yB ?yF ?yX ?yT ?yk N3 al6 ?yd ?yu ?y0 ?y1)
        case yB => k_asm
        case yF => k_asm
        case yX => k_asm
        case yT => k_asm
        case yk => exact rfl
        case yd => ktr_room
        case yu => ktr_units
        · intro h4 tk4 e4 F4 N4
          rw [e3] at e4
          cases e4
        · intro t4 u4 h4 tk4 e4 F4 N4
          clear N3 F3
          k_steps
          exact CEnd.stay F4 N4 off (left_more ⟨hY, hsub⟩ (hki ▸ e4))
    · refine post_assign1 rfl (by rfl) (by rfl) ?_
      intro D ys nx h₂ tk₂ F2 N2 off hJ₂
      rw [List.size_toArray, hkl] at hJ₂
      have hY : IntsAre ys (leftL ff 6) := hJ₂.1
      have S6 := S5.mono (nx' := (D, lst ys) :: nx) fun q hq => .tail _ (hJ₂.2 q hq)
      clear F13 N5 S5 hJ₂
      have m1 := S6.ca
      have m2 := S6.co
      have m4 := S6.st _ hcS
      obtain ⟨_, _, g1, g2⟩ := S6.al.objs
      dsimp only
      rename_i zc8 zc7 zc6 zc5 zc4 zc3 zc2 zc1
      revert za177 za176 za175 za174 za173 za172 za171 za170 za169 za168 za167 za166 za165 X1 za163 za162 za161 T3 za160 za159 za158 za157 za156 za155
        za154 za153 za152 za151 za150 za149 za148 za147 za146 za145 za144 za143 za142 za141 za140 za139 za138 za137 za136 za135 za134 za133 za132 za131
        za130 za129 za128 za127 za126 za125 za124 za123 za122 za121 za120 qk ek za119 za118 za117 za116 za115 za114 za113 za112 za111 za110 za109 za108
        za107 za106 za105 za104 za103 za102 za101 za100 za99 za98 za97 za96 za95 za94 za93 za92 za91 d0 za90 za89 za88 za87 za86 za85 rg za84 e1 e2 zc8
        zc7 za83 rs za82 k tb za81 ps tl hk0 hk1 h5 h6 tl' za80 za79 za78 t4 za77 za76 g3 g4 g5 g6 g7 g8 hP f3 h2 h3 za75 za74 za73 za72 za71 za70 za69
        hf8 za68 za67 za66 za65 za64 za63 za62 za61 za60 za59 za58 za57 za56 za55 za54 za53 za52 za51 za50 za49 za48 za47 hs4 kvs hkp hkt hR hr7 dl ol h₄
        tk₄ lol M hMM hol hM hMn l9 za46 za45 za44 za43 za42 za41 za40 za39 za38 za37 za36 hM6 zc6 zc5 zc4 h₅ tk₅ zc3 ps₂ hP₂ hK₂ c2 c1 c3 c4 cr hPr Dl
        vs₃ ps₃ h₆ c hperm hP₃ hDl kvs₃ hK₃ hperm₃ za35 za34 za33 za32 le1 za31 za30 x1 dx1 d1 nx1 h₇ tk₇ al1 sub1 ne1 ce1 cl1 hkt₃ hR₃ za29 za28 lt4 x2
        dx2 d2 nx2 h₈ tk₈ al2 sub2 ne2 cl2 p1 hsz3 za27 za26 lt5 za25 za24 za23 x3 dx3 d3 nx3 h₉ tk₉ al3 sub3 ne3 p2 za22 za21 lt7 za20 za19 le2 up1 up2
        up0 top D1 D2 hD1 hD2 t1 od1 kv1 a11 a12 a13 t2 od2 kv2 a21 a22 a23 t3 od3 kv3 a31 a32 a33 bs b1 b2 b3 b4 hdist ce2 ce3 hT hP1 hP2 hP3' hcS hlast
        hPl hrows hPrb i u nx' I oI h za18 hJ hI hIt hi3 P tP cP hPP hv hdI hbI R oA vA oO vO es n dA dO r4 r5 hlen hcS2 za17 za16 za15 h' za14 za13 hdA
        za12 za11 hdO za10 hIx hIe la va dsa na nxa h8 tk8 str_a nea za9 za8 za7 tk lb vb dsb nb nxb h9 tk9 str_b mem_b neb nab mem_a2 za6 za5 hva hvb hce
        h10 za4 za3 lD h12 za2 za1 nx4 ff q1 q2 q3 kv hkv hsrc hkl D ys nx h₂ tk₂ F2 N2 off hY S6 m1 m2 m4 zc2 zc1 g1 g2
      exact HboxA.down
set_option maxHeartbeats 40000000 in
noncomputable def cap10 : (P : Prop) ×' (PLift P → cap9.1) := by
  refine' ⟨_, fun HboxA => ?main⟩
  case main =>
    intro za177 za176 za175 za174 za173 za172 za171 za170 za169 za168 za167 za166 za165 X1 za163 za162 za161 T3 za160 za159 za158 za157 za156 za155 za154
      za153 za152 za151 za150 za149 za148 za147 za146 za145 za144 za143 za142 za141 za140 za139 za138 za137 za136 za135 za134 za133 za132 za131 za130
      za129 za128 za127 za126 za125 za124 za123 za122 za121 za120 qk ek za119 za118 za117 za116 za115 za114 za113 za112 za111 za110 za109 za108 za107
      za106 za105 za104 za103 za102 za101 za100 za99 za98 za97 za96 za95 za94 za93 za92 za91 d0 za90 za89 za88 za87 za86 za85 rg za84 e1 e2 zc8 zc7 za83
      rs za82 k tb za81 ps tl hk0 hk1 h5 h6 tl' za80 za79 za78 t4 za77 za76 g3 g4 g5 g6 g7 g8 hP f3 h2 h3 za75 za74 za73 za72 za71 za70 za69 hf8 za68 za67
      za66 za65 za64 za63 za62 za61 za60 za59 za58 za57 za56 za55 za54 za53 za52 za51 za50 za49 za48 za47 hs4 kvs hkp hkt hR hr7 dl ol h₄ tk₄ lol M hMM
      hol hM hMn l9 za46 za45 za44 za43 za42 za41 za40 za39 za38 za37 za36 hM6 zc6 zc5 zc4 h₅ tk₅ zc3 ps₂ hP₂ hK₂ c2 c1 c3 c4 cr hPr Dl vs₃ ps₃ h₆ c hperm
      hP₃ hDl kvs₃ hK₃ hperm₃ za35 za34 za33 za32 le1 za31 za30 x1 dx1 d1 nx1 h₇ tk₇ al1 sub1 ne1 ce1 cl1 hkt₃ hR₃ za29 za28 lt4 x2 dx2 d2 nx2 h₈ tk₈ al2
      sub2 ne2 cl2 p1 hsz3 za27 za26 lt5 za25 za24 za23 x3 dx3 d3 nx3 h₉ tk₉ al3 sub3 ne3 p2 za22 za21 lt7 za20 za19 le2 up1 up2 up0 top D1 D2 hD1 hD2 t1
      od1 kv1 a11 a12 a13 t2 od2 kv2 a21 a22 a23 t3 od3 kv3 a31 a32 a33 bs b1 b2 b3 b4 hdist ce2 ce3 hT hP1 hP2 hP3' hcS hlast hPl hrows hPrb i u nx' I oI
      h za18 hJ hI hIt hi3 P tP cP hPP hv hdI hbI R oA vA oO vO es n dA dO r4 r5 hlen hcS2 za17 za16 za15 h' za14 za13 hdA za12 za11 hdO za10 hIx hIe la
      va dsa na nxa h8 tk8 str_a nea za9 za8 za7 tk lb vb dsb nb nxb h9 tk9 str_b mem_b neb nab mem_a2 za6 za5 hva hvb hce h10 za4 za3 lD h12 za2 za1 nx4
      ff q1 q2 q3 kv hkv hsrc hkl D ys nx h₂ tk₂ F2 N2 off hY S6 m1 m2 m4 zc2 zc1 g1 g2
    w_top off
    k_steps
    refine seq_name (tup := false) (its := List.toArray ys) (EmptyJ ((D, lst ys) :: nx)) _ rfl (by decide) rfl rfl (by rw [sizeLine_eq, List.size_toArray, hY.length]; have := leftL_len ff 6; omega) (Src.of_lst (.head _)) F2 N2 ⟨rfl, fun _ h => h⟩ (fun _ _ _ h => Src.of_lst (h.2 _ (.head _))) ?_ ?_
    · rintro i₁ v hv₁ zs nx₁ I₁ oI₁ oC m₂ C D₁ h₁ tk₁ ⟨rfl, hsub⟩ e1 hC F3 N3 off₁ ne -
      clear F2 N2
      obtain ⟨t₁, u₁, rfl, ht⟩ := hY.at i₁ v (by simpa using hv₁)
      have hlt := q1 t₁ (List.mem_of_getElem? ht)
      have c1 := hsub _ m2
      have c2 := hsub _ m4
      have n1 := ne.1
      have n2 := ne.2.1
      have n3 := ne.2.2
      k_steps
      exact CEnd.stay F3 N3 off₁ ⟨rfl, hsub⟩
    · refine post_none ?_
      rintro D₁ zs nx₁ h₃ tk₃ F3 N3 off₁ ⟨rfl, hsub⟩
      clear F2 N2
      have S7 := S6.mono (nx' := nx₁) hsub
      have hD := hsub _ (.head _)
      clear S6 g1 g2 m1 m2 m4
      have m1 := S7.ca
      have m2 := S7.co
      have m4 := S7.st _ hcS
      obtain ⟨_, _, g1, g2⟩ := S7.al.objs
      dsimp only
      k_steps
      refine Hold.mk ?_
      rename News _ _ _ _ => N4
      have N5 := News.sub N4 (news' := nx₁) fun q hq => .tail _ (.tail _ hq)
      clear N4 hsub off₁
      k_dflt (refine' take_spec ?xB ?xF ?xX ?xT ?xk N5 S7.al ?xd ?xu ?_)
      case xB => k_asm
      case xF => k_asm
      case xX => k_asm
      case xT => k_asm
      case xk => exact rfl
      case xd => ktr_room
      case xu => ktr_units
      intro lc vc dsc nc nxc h10 tk10 due_c str_c al_c F6 N6 mem_c sub_c ne_c
      have S8 := S7.take N5 hdA hdO (fun j h1 h2 => hdist i j h1 h2) (fun q hq => three_ne (b2 q hq).2.2.2.1 (b2 q hq).2.2.2.2.1 (b2 q hq).2.2.2.2.2 i) hIx sub_c al_c
      have e2 := q2 _ due_c
      rw [e2] at str_c S8
      rw [remF_nil] at S8
      cases str_c
      have hD2 := sub_c _ hD (ne_obj N5 hD g2 (fun x => by cases x))
      have hcD := ne_c _ hD
      clear S7 N5 sub_c al_c due_c e2 m1 m2 m4 g1 g2 hD ne_c
      obtain ⟨_, _, g1, g2⟩ := S8.al.objs
      have m1 := S8.ca
      have m2 := S8.co
      have m4 := S8.st _ hcS
      k_steps
      rename_i zd14 zd13 zd12 zd11 zd10 zd9 zd8 zd7 zd6 zd5 zd4 zd3 zd2 zd1
      revert za177 za176 za175 za174 za173 za172 za171 za170 za169 za168 za167 za166 za165 X1 za163 za162 za161 T3 za160 za159 za158 za157 za156 za155
        za154 za153 za152 za151 za150 za149 za148 za147 za146 za145 za144 za143 za142 za141 za140 za139 za138 za137 za136 za135 za134 za133 za132 za131
        za130 za129 za128 za127 za126 za125 za124 za123 za122 za121 za120 qk ek za119 za118 za117 za116 za115 za114 za113 za112 za111 za110 za109 za108
        za107 za106 za105 za104 za103 za102 za101 za100 za97 za96 za95 za94 za93 za92 za91 d0 za90 za89 za88 za87 za86 za85 rg za84 e1 e2 zc8 zc7 za83 rs
        za82 k tb za81 ps tl hk0 hk1 h5 h6 tl' za80 za79 za78 t4 za77 za76 g3 g4 g5 g6 g7 g8 hP f3 h2 h3 za75 za74 za73 za72 za71 za70 za69 hf8 za68 za67
        za66 za65 za64 za63 za62 za61 za60 za59 za58 za57 za56 za55 za54 za53 za52 za51 za50 za49 za48 za47 hs4 kvs hkp hkt hR hr7 dl ol h₄ tk₄ lol M hMM
        hol hM hMn l9 za46 za45 za44 za43 za42 za41 za40 za39 za38 za37 za36 hM6 zc6 zc5 zc4 h₅ tk₅ zc3 ps₂ hP₂ hK₂ c2 c1 c3 c4 cr hPr Dl vs₃ ps₃ h₆ c
        hperm hP₃ hDl kvs₃ hK₃ hperm₃ za35 za34 za33 za32 le1 za31 za30 x1 dx1 d1 nx1 h₇ tk₇ al1 sub1 ne1 ce1 cl1 hkt₃ hR₃ za29 za28 lt4 x2 dx2 d2 nx2 h₈
        tk₈ al2 sub2 ne2 cl2 p1 hsz3 za27 za26 lt5 za25 za24 za23 x3 dx3 d3 nx3 h₉ tk₉ al3 sub3 ne3 p2 za22 za21 lt7 za20 za19 le2 up1 up2 up0 top D1 D2
        hD1 zd14 t1 od1 kv1 a11 a12 a13 t2 od2 kv2 a21 a22 a23 t3 od3 kv3 a31 a32 a33 bs b1 b2 b3 b4 hdist ce2 ce3 hT hP1 hP2 hP3' hcS hlast hPl hrows
        hPrb i u nx' I oI h za18 hJ hI hIt hi3 P tP cP hPP hv hdI hbI R oA vA oO vO es n dA dO r4 r5 hlen hcS2 za17 za16 za15 h' za14 za13 hdA za12 za11
        hdO za10 hIx hIe la va dsa na nxa h8 tk8 str_a nea za9 za8 za7 tk lb vb dsb nb nxb h9 tk9 str_b mem_b neb nab mem_a2 za6 za5 hva hvb hce zd13 za4
        za3 lD h12 za2 za1 nx4 ff q1 q2 q3 kv hkv hsrc hkl D ys nx h₂ tk₂ off hY zc2 zc1 D₁ nx₁ h₃ tk₃ zd12 zd11 zd10 zd9 zd8 lc dsc nc nxc h10 tk10 S8
        mem_c hD2 hcD zd7 zd6 g1 g2 m1 m2 m4 zd5 zd4 zd3 zd2 zd1
      exact HboxA.down
set_option maxHeartbeats 40000000 in
noncomputable def cap11 : (P : Prop) ×' (Q : Prop) ×' (PLift P → PLift Q → cap10.1) := by
  refine' ⟨_, _, fun HboxA HboxB => ?main⟩
  case main =>
    intro za177 za176 za175 za174 za173 za172 za171 za170 za169 za168 za167 za166 za165 X1 za163 za162 za161 T3 za160 za159 za158 za157 za156 za155 za154
      za153 za152 za151 za150 za149 za148 za147 za146 za145 za144 za143 za142 za141 za140 za139 za138 za137 za136 za135 za134 za133 za132 za131 za130
      za129 za128 za127 za126 za125 za124 za123 za122 za121 za120 qk ek za119 za118 za117 za116 za115 za114 za113 za112 za111 za110 za109 za108 za107
      za106 za105 za104 za103 za102 za101 za100 za97 za96 za95 za94 za93 za92 za91 d0 za90 za89 za88 za87 za86 za85 rg za84 e1 e2 zc8 zc7 za83 rs za82 k
      tb za81 ps tl hk0 hk1 h5 h6 tl' za80 za79 za78 t4 za77 za76 g3 g4 g5 g6 g7 g8 hP f3 h2 h3 za75 za74 za73 za72 za71 za70 za69 hf8 za68 za67 za66 za65
      za64 za63 za62 za61 za60 za59 za58 za57 za56 za55 za54 za53 za52 za51 za50 za49 za48 za47 hs4 kvs hkp hkt hR hr7 dl ol h₄ tk₄ lol M hMM hol hM hMn
      l9 za46 za45 za44 za43 za42 za41 za40 za39 za38 za37 za36 hM6 zc6 zc5 zc4 h₅ tk₅ zc3 ps₂ hP₂ hK₂ c2 c1 c3 c4 cr hPr Dl vs₃ ps₃ h₆ c hperm hP₃ hDl
      kvs₃ hK₃ hperm₃ za35 za34 za33 za32 le1 za31 za30 x1 dx1 d1 nx1 h₇ tk₇ al1 sub1 ne1 ce1 cl1 hkt₃ hR₃ za29 za28 lt4 x2 dx2 d2 nx2 h₈ tk₈ al2 sub2 ne2
      cl2 p1 hsz3 za27 za26 lt5 za25 za24 za23 x3 dx3 d3 nx3 h₉ tk₉ al3 sub3 ne3 p2 za22 za21 lt7 za20 za19 le2 up1 up2 up0 top D1 D2 hD1 zd14 t1 od1 kv1
      a11 a12 a13 t2 od2 kv2 a21 a22 a23 t3 od3 kv3 a31 a32 a33 bs b1 b2 b3 b4 hdist ce2 ce3 hT hP1 hP2 hP3' hcS hlast hPl hrows hPrb i u nx' I oI h za18
      hJ hI hIt hi3 P tP cP hPP hv hdI hbI R oA vA oO vO es n dA dO r4 r5 hlen hcS2 za17 za16 za15 h' za14 za13 hdA za12 za11 hdO za10 hIx hIe la va dsa
      na nxa h8 tk8 str_a nea za9 za8 za7 tk lb vb dsb nb nxb h9 tk9 str_b mem_b neb nab mem_a2 za6 za5 hva hvb hce zd13 za4 za3 lD h12 za2 za1 nx4 ff q1
      q2 q3 kv hkv hsrc hkl D ys nx h₂ tk₂ off hY zc2 zc1 D₁ nx₁ h₃ tk₃ zd12 zd11 zd10 zd9 zd8 lc dsc nc nxc h10 tk10 S8 mem_c hD2 hcD zd7 zd6 g1 g2 m1 m2
      m4 zd5 zd4 zd3 zd2 zd1
    w_top off
    refine Hold.mk ?_
    rename News _ _ _ _ => N4
    have N7 := News.sub N4 (news' := nxc) fun q hq => .tail _ hq
    clear N4
    have hl6 : (leftL ff 6).length ≤ 6 := leftL_len ff 6
    k_dflt (refine' first2_spec ?wB ?wF ?wX ?wT ?wk N7 S8.al ?wd ?wu ?w0 ?w1)
    case wB => k_asm
    case wF => k_asm
    case wX => k_asm
    case wT => k_asm
    case wk => exact rfl
    case wd => ktr_room
    case wu => ktr_units
    · intro h11 tk11 hf F7 N8
      clear N7
      have hl := first_none hf
      rw [hl] at hY
      cases hY
      k_steps
      refine Hold.mk ?_
      rename Fr _ _ _ _ => F8
      rename News _ _ _ _ => N9
      have hY : IntsAre [] (leftL ff 6) := by rw [hl]; exact .nil
      rename_i ze3 ze2 ze1
      revert za177 za176 za175 za174 za173 za172 za171 za170 za169 za168 za167 za166 za165 X1 za163 za162 za161 T3 za160 za159 za158 za157 za156 za155
        za154 za153 za152 za151 za150 za149 za148 za147 za146 za145 za144 za143 za142 za141 za140 za139 za138 za137 za136 za135 za134 za133 za132 za131
        za130 za129 za128 za127 za126 za125 za124 za123 za122 za121 za120 qk ek za119 za118 za117 za116 za115 za114 za113 za112 za111 za110 za109 za108
        za107 za106 za105 za104 za103 za102 za101 za100 za97 za96 za95 za94 za93 za92 za91 d0 za90 za89 za88 za87 za86 za85 rg za84 e1 e2 zc8 zc7 za83 rs
        za82 k tb za81 ps tl hk0 hk1 h5 h6 tl' za80 za79 za78 t4 za77 za76 g3 g4 g5 g6 g7 g8 hP f3 h2 h3 za75 za74 za73 za72 za71 za70 za69 hf8 za68 za67
        za66 za65 za64 za63 za62 za61 za60 za59 za58 za57 za56 za55 za54 za53 za52 za51 za50 za49 za48 za47 hs4 kvs hkp hkt hR hr7 dl ol h₄ tk₄ lol M hMM
        hol hM hMn l9 za46 za45 za44 za43 za42 za41 za40 za39 za38 za37 za36 hM6 zc6 zc5 zc4 h₅ tk₅ zc3 ps₂ hP₂ hK₂ c2 c1 c3 c4 cr hPr Dl vs₃ ps₃ h₆ c
        hperm hP₃ hDl kvs₃ hK₃ hperm₃ za35 za34 za33 za32 le1 za31 za30 x1 dx1 d1 nx1 h₇ tk₇ al1 sub1 ne1 ce1 cl1 hkt₃ hR₃ za29 za28 lt4 x2 dx2 d2 nx2 h₈
        tk₈ al2 sub2 ne2 cl2 p1 hsz3 za27 za26 lt5 za25 za24 za23 x3 dx3 d3 nx3 h₉ tk₉ al3 sub3 ne3 p2 za22 za21 lt7 za20 za19 le2 up1 up2 up0 top D1 D2
        hD1 zd14 t1 od1 kv1 a11 a12 a13 t2 od2 kv2 a21 a22 a23 t3 od3 kv3 a31 a32 a33 bs b1 b2 b3 b4 hdist ce2 ce3 hT hP1 hP2 hP3' hcS hlast hPl hrows
        hPrb i u nx' I oI h za18 hJ hI hIt hi3 P tP cP hPP hv hdI hbI R oA vA oO vO es n dA dO r4 r5 hlen hcS2 za17 za16 za15 h' za14 za13 hdA za12 za11
        hdO za10 hIx hIe la va dsa na nxa h8 tk8 str_a nea za9 za8 za7 tk lb vb dsb nb nxb h9 tk9 str_b mem_b neb nab mem_a2 za6 za5 hva hvb hce zd13 za4
        za3 lD h12 za2 za1 nx4 ff q1 q2 q3 kv hkv hsrc hkl D nx h₂ tk₂ off zc2 zc1 D₁ nx₁ h₃ tk₃ zd12 zd11 zd10 zd9 zd8 lc dsc nc nxc h10 tk10 S8 mem_c
        zd7 zd6 g1 g2 m1 m2 m4 zd5 zd4 zd1 hl6 h11 tk11 hf hl hD2 hcD ze3 ze2 F8 N9 ze1 hY
      exact HboxA.down
    · intro t5 u5 h11 tk11 hf F7 N8
      clear N7
      have hl := first_some hf
      have hpos : 0 < (leftL ff 6).length := List.length_pos_of_mem hl.1
      k_steps
      rename News _ _ _ _ => N9
      refine ne_left N9 (.tail _ hD2) hY (.head _) hpos (by ktr_units) ?_
      k_steps
      refine Hold.mk ?_
      rename Fr _ _ _ _ => F8
      refine min_left F8 N9 (.tail _ hD2) hY hl rfl ?_
      intro h12 u6 tk12 F9 N10
      clear F8 N9
      k_steps
      any_goals (first | (exfalso; omega) | skip)
      refine Hold.mk ?_
      rename Fr _ _ _ _ => F8
      rename News _ _ _ _ => N9
      rename_i zf5 zf4 zf3 zf2 zf1
      revert za177 za176 za175 za174 za173 za172 za171 za170 za169 za168 za167 za166 za165 X1 za163 za162 za161 T3 za160 za159 za158 za157 za156 za155
        za154 za153 za152 za151 za150 za149 za148 za147 za146 za145 za144 za143 za142 za141 za140 za139 za138 za137 za136 za135 za134 za133 za132 za131
        za130 za129 za128 za127 za126 za125 za124 za123 za122 za121 za120 qk ek za119 za118 za117 za116 za115 za114 za113 za112 za111 za110 za109 za108
        za107 za106 za105 za104 za103 za102 za101 za100 za97 za96 za95 za94 za93 za92 za91 d0 za90 za89 za88 za87 za86 za85 rg za84 e1 e2 zc8 zc7 za83 rs
        za82 k tb za81 ps tl hk0 hk1 h5 h6 tl' za80 za79 za78 t4 za77 za76 g3 g4 g5 g6 g7 g8 hP f3 h2 h3 za75 za74 za73 za72 za71 za70 za69 hf8 za68 za67
        za66 za65 za64 za63 za62 za61 za60 za59 za58 za57 za56 za55 za54 za53 za52 za51 za50 za49 za48 za47 hs4 kvs hkp hkt hR hr7 dl ol h₄ tk₄ lol M hMM
        hol hM hMn l9 za46 za45 za44 za43 za42 za41 za40 za39 za38 za37 za36 hM6 zc6 zc5 zc4 h₅ tk₅ zc3 ps₂ hP₂ hK₂ c2 c1 c3 c4 cr hPr Dl vs₃ ps₃ h₆ c
        hperm hP₃ hDl kvs₃ hK₃ hperm₃ za35 za34 za33 za32 le1 za31 za30 x1 dx1 d1 nx1 h₇ tk₇ al1 sub1 ne1 ce1 cl1 hkt₃ hR₃ za29 za28 lt4 x2 dx2 d2 nx2 h₈
        tk₈ al2 sub2 ne2 cl2 p1 hsz3 za27 za26 lt5 za25 za24 za23 x3 dx3 d3 nx3 h₉ tk₉ al3 sub3 ne3 p2 za22 za21 lt7 za20 za19 le2 up1 up2 up0 top D1 D2
        hD1 zd14 t1 od1 kv1 a11 a12 a13 t2 od2 kv2 a21 a22 a23 t3 od3 kv3 a31 a32 a33 bs b1 b2 b3 b4 hdist ce2 ce3 hT hP1 hP2 hP3' hcS hlast hPl hrows
        hPrb i u nx' I oI h za18 hJ hI hIt hi3 P tP cP hPP hv hdI hbI R oA vA oO vO es n dA dO r4 r5 hlen hcS2 za17 za16 za15 h' za14 za13 hdA za12 za11
        hdO za10 hIx hIe la va dsa na nxa h8 tk8 str_a nea za9 za8 za7 tk lb vb dsb nb nxb h9 tk9 str_b mem_b neb nab mem_a2 za6 za5 hva hvb hce zd13 za4
        za3 lD zf5 za2 za1 nx4 ff q1 q2 q3 kv hkv hsrc hkl D ys nx h₂ tk₂ off hY zc2 zc1 D₁ nx₁ h₃ tk₃ zd12 zd11 zd10 zd9 zd8 lc dsc nc nxc h10 tk10 S8
        mem_c hD2 hcD zd7 zd6 g1 g2 m1 m2 m4 zd5 zd4 zd1 hl6 t5 u5 h11 tk11 hf hl hpos zf4 zf3 zf2 h12 u6 tk12 F8 N9 zf1
      exact HboxB.down
set_option maxHeartbeats 40000000 in
theorem part12a : cap11.1 := by
  intro za177 za176 za175 za174 za173 za172 za171 za170 za169 za168 za167 za166 za165 X1 za163 za162 za161 T3 za160 za159 za158 za157 za156 za155 za154
    za153 za152 za151 za150 za149 za148 za147 za146 za145 za144 za143 za142 za141 za140 za139 za138 za137 za136 za135 za134 za133 za132 za131 za130
    za129 za128 za127 za126 za125 za124 za123 za122 za121 za120 qk ek za119 za118 za117 za116 za115 za114 za113 za112 za111 za110 za109 za108 za107
    za106 za105 za104 za103 za102 za101 za100 za97 za96 za95 za94 za93 za92 za91 d0 za90 za89 za88 za87 za86 za85 rg za84 e1 e2 zc8 zc7 za83 rs za82 k
    tb za81 ps tl hk0 hk1 h5 h6 tl' za80 za79 za78 t4 za77 za76 g3 g4 g5 g6 g7 g8 hP f3 h2 h3 za75 za74 za73 za72 za71 za70 za69 hf8 za68 za67 za66 za65
    za64 za63 za62 za61 za60 za59 za58 za57 za56 za55 za54 za53 za52 za51 za50 za49 za48 za47 hs4 kvs hkp hkt hR hr7 dl ol h₄ tk₄ lol M hMM hol hM hMn
    l9 za46 za45 za44 za43 za42 za41 za40 za39 za38 za37 za36 hM6 zc6 zc5 zc4 h₅ tk₅ zc3 ps₂ hP₂ hK₂ c2 c1 c3 c4 cr hPr Dl vs₃ ps₃ h₆ c hperm hP₃ hDl
    kvs₃ hK₃ hperm₃ za35 za34 za33 za32 le1 za31 za30 x1 dx1 d1 nx1 h₇ tk₇ al1 sub1 ne1 ce1 cl1 hkt₃ hR₃ za29 za28 lt4 x2 dx2 d2 nx2 h₈ tk₈ al2 sub2 ne2
    cl2 p1 hsz3 za27 za26 lt5 za25 za24 za23 x3 dx3 d3 nx3 h₉ tk₉ al3 sub3 ne3 p2 za22 za21 lt7 za20 za19 le2 up1 up2 up0 top D1 D2 hD1 zd14 t1 od1 kv1
    a11 a12 a13 t2 od2 kv2 a21 a22 a23 t3 od3 kv3 a31 a32 a33 bs b1 b2 b3 b4 hdist ce2 ce3 hT hP1 hP2 hP3' hcS hlast hPl hrows hPrb i u nx' I oI h za18
    hJ hI hIt hi3 P tP cP hPP hv hdI hbI R oA vA oO vO es n dA dO r4 r5 hlen hcS2 za17 za16 za15 h' za14 za13 hdA za12 za11 hdO za10 hIx hIe la va dsa
    na nxa h8 tk8 str_a nea za9 za8 za7 tk lb vb dsb nb nxb h9 tk9 str_b mem_b neb nab mem_a2 za6 za5 hva hvb hce zd13 za4 za3 lD h12 za2 za1 nx4 ff q1
    q2 q3 kv hkv hsrc hkl D nx h₂ tk₂ off zc2 zc1 D₁ nx₁ h₃ tk₃ zd12 zd11 zd10 zd9 zd8 lc dsc nc nxc h10 tk10 S8 mem_c zd7 zd6 g1 g2 m1 m2 m4 zd5 zd4
    zd1 hl6 h11 tk11 hf hl hD2 hcD ze3 ze2 F8 N9 ze1 hY
  w_top off
  refine sorted_left F8 N9 (.tail _ hD2) hY hl6 ?_
  intro Da va₁ na₁ ca₁ h13 F9 N10 hDa Ia Pa Oa
  have S9 := S8.mono (nx' := (Da, PySem.W.listOf va₁.toArray ca₁) :: nxc) fun q hq => .tail _ hq
  have N11 := News.sub N10 (news' := (Da, PySem.W.listOf va₁.toArray ca₁) :: nxc) fun q hq => by
    rcases List.mem_cons.mp hq with rfl | hq
    · exact .head _
    · exact .tail _ (.tail _ hq)
  clear F8 N9 S8 N10 g1 g2 m1 m2 m4
  have m2 := S9.co
  have m4 := S9.st _ hcS
  obtain ⟨lf, hlf, q3⟩ := late_pack q3
  generalize hrow : kvs₃.map toRow = rows₃ at hR₃ q3
  have hlr := hR₃.length
  have hlp := hPl.length
  have hvs : vs₃.length ≤ 7 := by
    have e1 : kvs₃.length = rows₃.length := by rw [← hrow, List.length_map]
    have e2 := hperm₃.length_eq
    omega
  k_steps
  refine seq_pair (tup := false) (its := List.toArray vs₃) (LateJ rows₃ lf ((Da, PySem.W.listOf va₁.toArray ca₁) :: nxc)) (fun i v₁ v₂ => ∃ hi : i < rows₃.length, ∃ t, v₁ = .str (rows₃[i]).1 t ∧ (rows₃[i]).1 ∈ kinds ∧ Told v₂ (rows₃[i]).2) _ rfl (by decide) rfl rfl rfl (by decide) (by rw [sizeLine_eq, List.size_toArray]; omega) (Src.of_list (S9.st _ hlast)) F9 N11 ⟨.nil, fun _ h => h⟩ (fun _ _ _ h => Src.of_list (h.2 _ (S9.st _ hlast))) ?_ ?_ ?_
  · rintro i₁ v zs nx₁ hv₁ ⟨-, hsub⟩
    have hi₁ : i₁ < vs₃.length := by
      obtain ⟨hi, _⟩ := Array.getElem?_eq_some_iff.mp hv₁
      simpa using hi
    obtain ⟨a, n, e1, e2⟩ := hPl.get i₁ (by omega)
    obtain ⟨hkk, t, v₂, e3, htd⟩ := hR₃.get i₁ (by omega) (by omega)
    rw [List.getElem?_toArray, e1] at hv₁
    cases hv₁
    rw [e3] at e2
    exact ⟨a, _, _, rfl, ⟨by omega, t, rfl, hkk, htd⟩, Src.of_pair (hsub _ (S9.st _ e2))⟩
  · rintro i₁ v₁ v₂ hi' ⟨hi₁, t, rfl, hkk, htd⟩ zs nx₁ I₁ oI₁ oC m₂ C D₁ h₁ tk₁ ⟨hZ, hsub⟩ ⟨e1, e2⟩ hC F10 N12 off₁ ne -
    clear F9 N11
    have c1 := hsub _ m2
    have c2 := hsub _ m4
    have n1 := ne.1
    have n2 := ne.2.1
    have n3 := ne.2.2
    generalize ho : (rows₃[i₁]).2 = o at htd
    cases htd with
    | none =>
      k_steps
      exact CEnd.stay F10 N12 off₁ (late_stay ⟨hZ, hsub⟩ hi₁ (by rw [hlf]; exact late_none ho))
    | int j u =>
      k_steps
      · exact CEnd.stay F10 N12 off₁ (late_more ⟨hZ, hsub⟩ hi₁ (by rw [hlf]; exact late_some ho (by assumption)))
      · exact CEnd.stay F10 N12 off₁ (late_stay ⟨hZ, hsub⟩ hi₁ (by rw [hlf]; exact late_less ho (by assumption)))
  · refine post_none ?_
    rintro D₁ zs nx₁ h₃ tk₃ F10 N12 off₁ ⟨hZ, hsub⟩
    clear F9 N11
    rw [List.size_toArray, hlp, hlr, List.take_length] at hZ
    have S10 := S9.mono (nx' := nx₁) hsub
    have hDa := hsub _ (.head _)
    clear S9 m2 m4
    dsimp only
    k_steps
    refine Hold.mk ?_
    have hq6 : (rows₃.filterMap lf).length ≤ 6 := by rw [← q3.length_eq]; exact hl6
    refine sorted_left F10 N12 (.head _) hZ hq6 ?_
    intro Db va₂ na₂ ca₂ h14 F11 N13 hDb Ib Pb Ob
    have hsame : na₁ = na₂ := sorted_same q3 Pa Pb Oa Ob
    rw [← hsame] at Ib
    refine ne_same N13 (.tail _ (.tail _ hDa)) Ia (.head _) Ib (by ktr_units) ?_
    k_steps
    have S11 := S10.mono (nx' := _) fun q hq => List.Mem.tail (Db, PySem.W.listOf va₂.toArray ca₂) (List.Mem.tail (D₁, lst zs) hq)
    exact TurnEnd.mk F11 N13 S11.it (fun q hq => (avoid_of hq).1) (fun q hq => (avoid_of hq).2) ⟨by intro z hz; repeat (first | exact frM_out hz | refine (if_neg (free_ne hz (by rfl))).trans ?_), S11.done N13 hdI hdA hdO (by rw [List.length_append, hlen]; rfl) hbI _⟩
set_option maxHeartbeats 40000000 in
theorem part12b : cap11.2.1 := by
  intro za177 za176 za175 za174 za173 za172 za171 za170 za169 za168 za167 za166 za165 X1 za163 za162 za161 T3 za160 za159 za158 za157 za156 za155 za154
    za153 za152 za151 za150 za149 za148 za147 za146 za145 za144 za143 za142 za141 za140 za139 za138 za137 za136 za135 za134 za133 za132 za131 za130
    za129 za128 za127 za126 za125 za124 za123 za122 za121 za120 qk ek za119 za118 za117 za116 za115 za114 za113 za112 za111 za110 za109 za108 za107
    za106 za105 za104 za103 za102 za101 za100 za97 za96 za95 za94 za93 za92 za91 d0 za90 za89 za88 za87 za86 za85 rg za84 e1 e2 zc8 zc7 za83 rs za82 k
    tb za81 ps tl hk0 hk1 h5 h6 tl' za80 za79 za78 t4 za77 za76 g3 g4 g5 g6 g7 g8 hP f3 h2 h3 za75 za74 za73 za72 za71 za70 za69 hf8 za68 za67 za66 za65
    za64 za63 za62 za61 za60 za59 za58 za57 za56 za55 za54 za53 za52 za51 za50 za49 za48 za47 hs4 kvs hkp hkt hR hr7 dl ol h₄ tk₄ lol M hMM hol hM hMn
    l9 za46 za45 za44 za43 za42 za41 za40 za39 za38 za37 za36 hM6 zc6 zc5 zc4 h₅ tk₅ zc3 ps₂ hP₂ hK₂ c2 c1 c3 c4 cr hPr Dl vs₃ ps₃ h₆ c hperm hP₃ hDl
    kvs₃ hK₃ hperm₃ za35 za34 za33 za32 le1 za31 za30 x1 dx1 d1 nx1 h₇ tk₇ al1 sub1 ne1 ce1 cl1 hkt₃ hR₃ za29 za28 lt4 x2 dx2 d2 nx2 h₈ tk₈ al2 sub2 ne2
    cl2 p1 hsz3 za27 za26 lt5 za25 za24 za23 x3 dx3 d3 nx3 h₉ tk₉ al3 sub3 ne3 p2 za22 za21 lt7 za20 za19 le2 up1 up2 up0 top D1 D2 hD1 zd14 t1 od1 kv1
    a11 a12 a13 t2 od2 kv2 a21 a22 a23 t3 od3 kv3 a31 a32 a33 bs b1 b2 b3 b4 hdist ce2 ce3 hT hP1 hP2 hP3' hcS hlast hPl hrows hPrb i u nx' I oI h za18
    hJ hI hIt hi3 P tP cP hPP hv hdI hbI R oA vA oO vO es n dA dO r4 r5 hlen hcS2 za17 za16 za15 h' za14 za13 hdA za12 za11 hdO za10 hIx hIe la va dsa
    na nxa h8 tk8 str_a nea za9 za8 za7 tk lb vb dsb nb nxb h9 tk9 str_b mem_b neb nab mem_a2 za6 za5 hva hvb hce zd13 za4 za3 lD zf5 za2 za1 nx4 ff q1
    q2 q3 kv hkv hsrc hkl D ys nx h₂ tk₂ off hY zc2 zc1 D₁ nx₁ h₃ tk₃ zd12 zd11 zd10 zd9 zd8 lc dsc nc nxc h10 tk10 S8 mem_c hD2 hcD zd7 zd6 g1 g2 m1 m2
    m4 zd5 zd4 zd1 hl6 t5 u5 h11 tk11 hf hl hpos zf4 zf3 zf2 h12 u6 tk12 F8 N9 zf1
  w_top off
  refine sorted_left F8 N9 (.tail _ hD2) hY hl6 ?_
  intro Da va₁ na₁ ca₁ h13 F9 N10 hDa Ia Pa Oa
  have S9 := S8.mono (nx' := (Da, PySem.W.listOf va₁.toArray ca₁) :: nxc) fun q hq => .tail _ hq
  have N11 := News.sub N10 (news' := (Da, PySem.W.listOf va₁.toArray ca₁) :: nxc) fun q hq => by
    rcases List.mem_cons.mp hq with rfl | hq
    · exact .head _
    · exact .tail _ (.tail _ hq)
  clear F8 N9 S8 N10 g1 g2 m1 m2 m4
  have m2 := S9.co
  have m4 := S9.st _ hcS
  obtain ⟨lf, hlf, q3⟩ := late_pack q3
  generalize hrow : kvs₃.map toRow = rows₃ at hR₃ q3
  have hlr := hR₃.length
  have hlp := hPl.length
  have hvs : vs₃.length ≤ 7 := by
    have e1 : kvs₃.length = rows₃.length := by rw [← hrow, List.length_map]
    have e2 := hperm₃.length_eq
    omega
  k_steps
  refine seq_pair (tup := false) (its := List.toArray vs₃) (LateJ rows₃ lf ((Da, PySem.W.listOf va₁.toArray ca₁) :: nxc)) (fun i v₁ v₂ => ∃ hi : i < rows₃.length, ∃ t, v₁ = .str (rows₃[i]).1 t ∧ (rows₃[i]).1 ∈ kinds ∧ Told v₂ (rows₃[i]).2) _ rfl (by decide) rfl rfl rfl (by decide) (by rw [sizeLine_eq, List.size_toArray]; omega) (Src.of_list (S9.st _ hlast)) F9 N11 ⟨.nil, fun _ h => h⟩ (fun _ _ _ h => Src.of_list (h.2 _ (S9.st _ hlast))) ?_ ?_ ?_
  · rintro i₁ v zs nx₁ hv₁ ⟨-, hsub⟩
    have hi₁ : i₁ < vs₃.length := by
      obtain ⟨hi, _⟩ := Array.getElem?_eq_some_iff.mp hv₁
      simpa using hi
    obtain ⟨a, n, e1, e2⟩ := hPl.get i₁ (by omega)
    obtain ⟨hkk, t, v₂, e3, htd⟩ := hR₃.get i₁ (by omega) (by omega)
    rw [List.getElem?_toArray, e1] at hv₁
    cases hv₁
    rw [e3] at e2
    exact ⟨a, _, _, rfl, ⟨by omega, t, rfl, hkk, htd⟩, Src.of_pair (hsub _ (S9.st _ e2))⟩
  · rintro i₁ v₁ v₂ hi' ⟨hi₁, t, rfl, hkk, htd⟩ zs nx₁ I₁ oI₁ oC m₂ C D₁ h₁ tk₁ ⟨hZ, hsub⟩ ⟨e1, e2⟩ hC F10 N12 off₁ ne -
    clear F9 N11
    have c1 := hsub _ m2
    have c2 := hsub _ m4
    have n1 := ne.1
    have n2 := ne.2.1
    have n3 := ne.2.2
    generalize ho : (rows₃[i₁]).2 = o at htd
    cases htd with
    | none =>
      k_steps
      exact CEnd.stay F10 N12 off₁ (late_stay ⟨hZ, hsub⟩ hi₁ (by rw [hlf]; exact late_none ho))
    | int j u =>
      k_steps
      · exact CEnd.stay F10 N12 off₁ (late_more ⟨hZ, hsub⟩ hi₁ (by rw [hlf]; exact late_some ho (by assumption)))
      · exact CEnd.stay F10 N12 off₁ (late_stay ⟨hZ, hsub⟩ hi₁ (by rw [hlf]; exact late_less ho (by assumption)))
  · refine post_none ?_
    rintro D₁ zs nx₁ h₃ tk₃ F10 N12 off₁ ⟨hZ, hsub⟩
    clear F9 N11
    rw [List.size_toArray, hlp, hlr, List.take_length] at hZ
    have S10 := S9.mono (nx' := nx₁) hsub
    have hDa := hsub _ (.head _)
    clear S9 m2 m4
    dsimp only
    k_steps
    refine Hold.mk ?_
    have hq6 : (rows₃.filterMap lf).length ≤ 6 := by rw [← q3.length_eq]; exact hl6
    refine sorted_left F10 N12 (.head _) hZ hq6 ?_
    intro Db va₂ na₂ ca₂ h14 F11 N13 hDb Ib Pb Ob
    have hsame : na₁ = na₂ := sorted_same q3 Pa Pb Oa Ob
    rw [← hsame] at Ib
    refine ne_same N13 (.tail _ (.tail _ hDa)) Ia (.head _) Ib (by ktr_units) ?_
    k_steps
    have S11 := S10.mono (nx' := _) fun q hq => List.Mem.tail (Db, PySem.W.listOf va₂.toArray ca₂) (List.Mem.tail (D₁, lst zs) hq)
    exact TurnEnd.mk F11 N13 S11.it (fun q hq => (avoid_of hq).1) (fun q hq => (avoid_of hq).2) ⟨by intro z hz; repeat (first | exact frM_out hz | refine (if_neg (free_ne hz (by rfl))).trans ?_), S11.done N13 hdI hdA hdO (by rw [List.length_append, hlen]; rfl) hbI _⟩
set_option maxHeartbeats 40000000 in
theorem part13 : cap8.2.1 := by
  intro zb153 zb152 zb151 zb150 zb149 zb148 zb147 zb146 zb145 zb144 zb143 zb142 zb141 zb140 zb139 zb138 zb137 T3 zb136 zb135 zb134 zb133 zb132 zb131
    zb130 zb129 zb128 zb127 zb126 zb125 zb124 zb123 zb122 zb121 zb120 zb119 zb118 zb117 zb116 zb115 zb114 zb113 zb112 zb111 zb110 zb109 zb108 zb107
    zb106 zb105 zb104 zb103 zb102 zb101 zb100 zb99 zb98 zb97 zb96 qk ek zb95 zb94 zb93 zb92 zb91 zb90 zb89 zb88 zb87 zb86 zb85 zb84 zb83 zb82 zb81 zb80
    zb79 zb78 zb77 zb76 zb75 zb74 zb73 zb72 zb71 zb70 zb69 zb68 zb67 d0 zb66 zb65 zb64 zb63 zb62 zb61 rg zb60 e1 e2 h₂ tk₂ u rs n k tb nb ps tl hk0 hk1
    h5 h6 tl' zb59 zb58 zb57 t4 g1 g2 g3 g4 g5 g6 g7 g8 hP f3 h2 h3 zb56 zb55 zb54 zb53 zb52 zb51 zb50 hf8 zb49 zb48 zb47 zb46 zb45 zb44 zb43 zb42 zb41
    zb40 zb39 zb38 zb37 zb36 zb35 zb34 zb33 zb32 zb31 zb30 zb29 zb28 hs4 kvs hkp hkt hR hr7 dl ol h₄ tk₄ lol M hMM hol hM hMn l9 zb27 zb26 zb25 zb24
    zb23 zb22 zb21 zb20 zb19 zb18 zb17 hM6 D ys nx h₅ tk₅ off ps₂ hP₂ hK₂ c2 c1 c3 c4 cr hPr Dl vs₃ ps₃ h₆ c hperm hP₃ hDl kvs₃ hK₃ hperm₃ zb16 zb15
    zb14 zb13 le1 zb12 tk x1 dx1 d1 nx1 h₇ tk₇ al1 sub1 ne1 ce1 cl1 hkt₃ hR₃ zb11 zb10 lt4 x2 dx2 d2 nx2 h₈ tk₈ al2 sub2 ne2 cl2 p1 hsz3 zb9 zb8 lt5 zb7
    zb6 zb5 x3 dx3 d3 nx3 h₉ tk₉ al3 sub3 ne3 p2 zb4 zb3 lt7 zb2 zb1 F13 N13 le2 up1 up2 up0 top D1 D2 hD1 hD2 t1 od1 kv1 a11 a12 a13 t2 od2 kv2 a21 a22
    a23 t3 od3 kv3 a31 a32 a33 bs b1 b2 b3 b4 hdist ce2 ce3 hT hP1 hP2 hP3' hcS hlast hPl hrows hPrb
  w_top off
  rintro h₂ tk₂ u₂ nx' F2 N2 ⟨⟨es, n, he, hlen, hE⟩, -, hbs, -, -⟩
  replace F2 := Fr.as F13 F2
  replace N2 := News.as F13 N2
  clear F13 N13
  obtain ⟨v1, v2, v3, rfl⟩ : ∃ v1 v2 v3, es = [v1, v2, v3] := by
    have h3 : es.length = 3 := hlen
    match es, h3 with
    | [a, b, c], _ => exact ⟨a, b, c, rfl⟩
  have hE0 := hE
  obtain _ | ⟨e1, e2, e3, e4, e5, e6, e7, hE⟩ := hE
  have hcS2 := hbs _ hcS
  have hfr := front_mem N2 he
  replace N2 := news_front N2 he
  replace e1 := hfr _ e1
  replace e2 := hfr _ e2
  replace e4 := hfr _ e4
  replace hcS2 := hfr _ hcS2
  replace hE0 := hE0.mono (nx' := _) fun q hq _ _ => hfr q hq
  replace hbs := fun q hq => hfr q (hbs q hq)
  clear hfr hE hlen
  dsimp only
  k_steps
  rename Fr _ _ _ _ => F3
  rename News _ _ _ _ => N3
  refine mul3 F3 N3 (.head _) ?_
  intro Dm h₃ F4 N4 hDm
  clear F3 N3
  refine eq_every N4 (.tail _ (.tail _ (.head _))) hE0 (fun q hq => .tail _ (.tail _ hq)) (.head _) hD1.mem (fun k hk => (List.mem_append.mp hk).elim (hD1.mem k) (hD2.mem k)) (by ktr_units) ?_
  have N5 := News.sub N4 (news' := (_, PySem.W.listOf #[_, v2, v3] _) :: avoid nx' _) fun q hq => .tail _ (.tail _ hq)
  clear N4
  have cr2 := hbs _ hrows
  k_steps
  refine Hold.mk ?_
  k_dflt (refine' made_spec (vs := rs) (rows := kvs.map toRow) ?vB ?vF ?vX ?vT ?vk N5 cr2 (hPrb.mono hbs) hR ?vd ?vu ?_)
  case vB => k_asm
  case vF => k_asm
  case vX => k_asm
  case vT => k_asm
  case vk => exact rfl
  case vd => ktr_room
  case vu => ktr_units
  intro x4 dx4 d4 nx4 h5 tk5 al4 F5 N6 sub4 ne4
  have hcS4 := sub4 _ hcS2
  have he4 := sub4 _ (.head _)
  have e14 := sub4 _ e1
  have e44 := sub4 _ e4
  have ne5 := ne4 _ (.head _)
  have ne6 := ne4 _ e1
  have ne7 := ne4 _ e4
  clear N5 sub4 ne4 hcS2 e1 e2 e4 cr2
  rw [madeF_look, hMM] at al4
  have al5 := AlarmIn.intro al4
  obtain ⟨_, _, g1, g2⟩ := al5.objs
  k_steps
  refine Hold.mk ?_
  k_dflt (refine' take_spec ?sB ?sF ?sX ?sT ?sk N6 al5 ?sd ?su ?_)
  case sB => k_asm
  case sF => k_asm
  case sX => k_asm
  case sT => k_asm
  case sk => exact rfl
  case sd => ktr_room
  case su => ktr_units
  intro lf vf dsf nf nxf h6 tk6 due_f str_f al_f F6 N7 mem_f sub_f ne_f
  have hds := due_split (by omega) hD1 hD2 due_f
  rw [← hds] at str_f
  have he5 := sub_f _ he4 (Ne.symm (fun e => ne5.2.1 e.symm))
  have e15 := sub_f _ e14 ne6.2.1
  have e45 := sub_f _ e44 ne7.2.1
  clear N6 sub_f ne_f al5 g1 g2 al4 hcS4 he4 e14 e44 ne5 ne6 ne7
  have hfr := front_mem N7 he5
  replace N7 := news_front N7 he5
  replace e15 := hfr _ e15
  replace e45 := hfr _ e45
  replace mem_f := hfr _ mem_f
  k_steps
  refine eq_strs N7 mem_f str_f e45 e5 (fun k hk => (List.mem_append.mp hk).elim (hD1.mem k) (hD2.mem k)) (by ktr_units) ?_
  k_steps
theorem lawt : PySem.Challenge.rw_sa0560_01.Holds :=
  cap8.2.2 ⟨cap9.2 ⟨cap10.2 ⟨cap11.2.2 ⟨part12a⟩ ⟨part12b⟩⟩⟩⟩ ⟨part13⟩
end Mine
theorem PySem.Challenge.cw_sa0560_01_holds : PySem.Challenge.rw_sa0560_01.Holds := by
  exact Mine.lawt
